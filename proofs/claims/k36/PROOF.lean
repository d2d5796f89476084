import PyProof.Rows.All
import HandS.ForMost
import HandS.ForExc
import HandS.Walk
import HandS.Deep
import HandS.Wide
import HandS.IsInst
import HandS.More
import KE.GoesMore
import HandS.Rev
import HandS.Conv
import HandS.SetKeys
import HandS.DictTup
import PyProof.DictMoreH
import HandS.SortInts
import HandS.Style
import HandS.ExcInit
import HandS.ExcField
import HandS.ExcOwn
import HandS.WordsExc
import HandS.TupAny
import HandS.DictComp
import HandS.ExcIs
import HandS.HotCalls
import HandS.ExcInitHot
import KE.KExcIs
import HandS.Text
import HandS.FStr
import HandS.Iter
import Wide.All
import OpenK.AllK
import Wide.FinOn
import PySem.Challenge.RW_unsewn_k36_whole_slips_there_and_back
set_option Elab.async false
set_option linter.all false
set_option maxRecDepth 100000
/-! Pv1: data by value over the abstract heap: what is shared (frozen for good), what a slot owns alone. -/
namespace Pv
open PySem PySem.Spec PyProof.Rows L2

abbrev D := PyData
/-- how a slot holds its value: not at all; shared data; a list of its own; a pair of its own; a dict of its own (keys ints and texts; tuples of them) -/
inductive T where
  | no | sh | ol (t : T) | pr (s t : T) | dk (t : T) | dt (t : T) | ex (a d : Addr)
  deriving DecidableEq
abbrev FzT := Addr → Prop
/-- a key's data -/
def kD : Key → D
  | .inl i => .int i
  | .inr x => .str x
def kTD (ks : List Key) : D := .tuple (ks.map kD)
/-- a dict's data, keys tuples: told apart by a first pair -/
abbrev tagT : D × D := (.bool true, .none)
abbrev dtD (kvd : List (D × D)) : D := .dict (tagT :: kvd)
/-- a caught exception's data: its fields -/
def exD (xs : List (Str × D)) : D := .dict (xs.map fun p => (.str p.1, p.2))
/-- what may change -/
def mutO : HO → Bool
  | .lst _ => true
  | .dK _ => true
  | .dT _ => true
  | _ => false

/-- a list of the written part -/
def KL (K : PySem.W.Frag) (a : Addr) (xs : List V) : Prop := ∃ (o : Obj) (its : Array Value) (n : Nat), K.lookup a = some o ∧ o.cls = .type "list" ∧ o.dict = none ∧ o.data = .seq its n ∧ its.size ≤ sizeLine ∧ Vals xs its.toList
/-- a list that stays -/
def FzL (K : PySem.W.Frag) (H : Hp) (Z : FzT) (a : Addr) (xs : List V) : Prop := (Z a ∧ Rd H a (.lst xs)) ∨ KL K a xs
theorem FzL.sql {K : PySem.W.Frag} {H : Hp} {Z : FzT} {a : Addr} {xs : List V} (h : FzL K H Z a xs) : SqL K H a xs := h.elim (fun h => .inl h.2) .inr
theorem FzL.mono {K : PySem.W.Frag} {H : Hp} {Z Z' : FzT} {a : Addr} {xs : List V} (m : ∀ a, Z a → Z' a) (h : FzL K H Z a xs) : FzL K H Z' a xs := h.imp (fun h => ⟨m _ h.1, h.2⟩) id
mutual
inductive Sh (K : PySem.W.Frag) (H : Hp) (Z : FzT) : V → D → Prop
  | non : Sh K H Z .non .none
  | bl (b : Bool) : Sh K H Z (.bl b) (.bool b)
  | int (i : Int) : Sh K H Z (.int i) (.int i)
  | str (x : Str) : Sh K H Z (.str x) (.str x)
  | lst {a : Addr} {xs : List V} {ds : List D} : FzL K H Z a xs → ShA K H Z xs ds → Sh K H Z (.ref a) (.list ds)
  | tup {a : Addr} {xs : List V} {ds : List D} : H a = some (.tup xs) → ShA K H Z xs ds → Sh K H Z (.ref a) (.tuple ds)
  | dk {a : Addr} {o : Obj} {kvs : List (Key × V)} {kvd : List (D × D)} : Z a → H a = some (.frz o (.dK kvs)) → kvd.map Prod.fst = kvs.map (fun p => kD p.1) → ShA K H Z (kvs.map Prod.snd) (kvd.map Prod.snd) → Sh K H Z (.ref a) (.dict kvd)
  | dt {a : Addr} {o : Obj} {kvs : List (List Key × V)} {kvd : List (D × D)} : Z a → H a = some (.frz o (.dT kvs)) → kvd.map Prod.fst = kvs.map (fun p => kTD p.1) → ShA K H Z (kvs.map Prod.snd) (kvd.map Prod.snd) → Sh K H Z (.ref a) (dtD kvd)
inductive ShA (K : PySem.W.Frag) (H : Hp) (Z : FzT) : List V → List D → Prop
  | nil : ShA K H Z [] []
  | cons {v : V} {vs : List V} {d : D} {ds : List D} : Sh K H Z v d → ShA K H Z vs ds → ShA K H Z (v :: vs) (d :: ds)
end
mutual
inductive Rep (K : PySem.W.Frag) (H : Hp) (Z : FzT) : T → V → D → List Addr → Prop
  | no {v : V} {d : D} : Rep K H Z .no v d []
  | sh {v : V} {d : D} : Sh K H Z v d → Rep K H Z .sh v d []
  | ol {t : T} {a : Addr} {xs : List V} {ds : List D} {f : List Addr} : H a = some (.lst xs) → RepA K H Z t xs ds f → Rep K H Z (.ol t) (.ref a) (.list ds) (a :: f)
  | pr {s t : T} {a : Addr} {x y : V} {dx dy : D} {f g : List Addr} : H a = some (.tup [x, y]) → Rep K H Z s x dx f → Rep K H Z t y dy g → Rep K H Z (.pr s t) (.ref a) (.tuple [dx, dy]) (f ++ g)
  | dk {t : T} {a : Addr} {kvs : List (Key × V)} {kvd : List (D × D)} {f : List Addr} : H a = some (.dK kvs) → kvd.map Prod.fst = kvs.map (fun p => kD p.1) → RepA K H Z t (kvs.map Prod.snd) (kvd.map Prod.snd) f → Rep K H Z (.dk t) (.ref a) (.dict kvd) (a :: f)
  | dt {t : T} {a : Addr} {kvs : List (List Key × V)} {kvd : List (D × D)} {f : List Addr} : H a = some (.dT kvs) → kvd.map Prod.fst = kvs.map (fun p => kTD p.1) → RepA K H Z t (kvs.map Prod.snd) (kvd.map Prod.snd) f → Rep K H Z (.dt t) (.ref a) (dtD kvd) (a :: f)
  | ex {a dd : Addr} {fs : List (Str × V)} {xs : List (Str × D)} : Z dd → H dd = some (.xd fs) → (∀ p ∈ xs, ∃ v, fs.lookup p.1 = some v ∧ Sh K H Z v p.2) → Rep K H Z (.ex a dd) (.ref a) (exD xs) []
inductive RepA (K : PySem.W.Frag) (H : Hp) (Z : FzT) : T → List V → List D → List Addr → Prop
  | nil {t : T} : RepA K H Z t [] [] []
  | cons {t : T} {v : V} {vs : List V} {d : D} {ds : List D} {f g : List Addr} : Rep K H Z t v d f → RepA K H Z t vs ds g → RepA K H Z t (v :: vs) (d :: ds) (f ++ g)
end
/-- the slots -/
inductive Env (K : PySem.W.Frag) (H : Hp) (Z : FzT) : List T → L2.St → List D → List Addr → Prop
  | nil : Env K H Z [] [] [] []
  | no {ts : List T} {ov : Option V} {σ : L2.St} {d : D} {δ : List D} {g : List Addr} : Env K H Z ts σ δ g → Env K H Z (.no :: ts) (ov :: σ) (d :: δ) g
  | cons {t : T} {ts : List T} {v : V} {σ : L2.St} {d : D} {δ : List D} {f g : List Addr} : Rep K H Z t v d f → Env K H Z ts σ δ g → Env K H Z (t :: ts) (some v :: σ) (d :: δ) (f ++ g)

structure Ok (K : PySem.W.Frag) (Γ : List T) (σ : L2.St) (δ : List D) (H : Hp) (Z : FzT) (F : List Addr) : Prop where
  env : Env K H Z Γ σ δ F
  nd : F.Nodup
  dz : ∀ a ∈ F, ¬ Z a
  zs : ∀ a, Z a → H a ≠ none
/-- from a heap to a later one: what is not in F stays -/
structure Stp (H : Hp) (Z : FzT) (F : List Addr) (H' : Hp) (Z' : FzT) (F' : List Addr) : Prop where
  keep : ∀ a o, H a = some o → a ∉ F → H' a = some o
  mono : ∀ a, Z a → Z' a
  own : ∀ a ∈ F', a ∈ F ∨ H a = none
  frz : ∀ a, Z' a → Z a ∨ a ∈ F ∨ H a = none
  live : ∀ a, H a ≠ none → H' a ≠ none
  zs : ∀ a, Z' a → Z a ∨ H' a ≠ none
abbrev Ext (H : Hp) (Z : FzT) (H' : Hp) (Z' : FzT) : Prop := Stp H Z [] H' Z' []
/-- the owned addresses hold what may change -/
def Mu (H : Hp) (F : List Addr) : Prop := ∀ a ∈ F, ∃ o, H a = some o ∧ mutO o = true

section
variable {K : PySem.W.Frag} {H H' H1 H2 : Hp} {Z Z' Z1 Z2 : FzT} {F F' F1 F2 : List Addr}
theorem Ext.refl : Ext H Z H Z := ⟨fun _ _ h _ => h, fun _ h => h, fun _ h => (nomatch h), fun _ h => .inl h, fun _ h => h, fun _ h => .inl h⟩
theorem Stp.refl : Stp H Z F H Z F := ⟨fun _ _ h _ => h, fun _ h => h, fun _ h => .inl h, fun _ h => .inl h, fun _ h => h, fun _ h => .inl h⟩
theorem Stp.trans (a : Stp H Z F H1 Z1 F1) (b : Stp H1 Z1 F1 H2 Z2 F2) : Stp H Z F H2 Z2 F2 := by
  have back : ∀ x, H1 x = none → x ∈ F ∨ H x = none := fun x h => by
    by_cases hx : x ∈ F
    · exact .inl hx
    · cases q : H x with
      | none => exact .inr rfl
      | some o => rw [a.keep x o q hx] at h; cases h
  refine ⟨fun x o h hx => ?_, fun x h => b.mono x (a.mono x h), fun x h => ?_, fun x h => ?_, fun x h => b.live x (a.live x h), fun x h => ?_⟩
  · have h1 := a.keep x o h hx
    refine b.keep x o h1 fun hf => ?_
    rcases a.own x hf with z | z
    · exact hx z
    · rw [h] at z; cases z
  · rcases b.own x h with z | z
    · exact a.own x z
    · exact back x z
  · rcases b.frz x h with z | z | z
    · exact a.frz x z
    · exact .inr (a.own x z)
    · exact .inr (back x z)
  · rcases b.zs x h with z | z
    · exact (a.zs x z).imp id (b.live x)
    · exact .inr z
theorem Ext.trans (a : Ext H Z H1 Z1) (b : Ext H1 Z1 H2 Z2) : Ext H Z H2 Z2 := Stp.trans a b
theorem Ext.same (a : Ext H Z H' Z') : Same H H' := fun b o h => a.keep b o h (by simp)
theorem Ext.stp (a : Ext H Z H' Z') : Stp H Z F H' Z' F :=
  ⟨fun x o h _ => a.keep x o h (by simp), a.mono, fun _ h => .inl h, fun x h => (a.frz x h).elim .inl fun z => .inr (z.elim (fun q => nomatch q) .inr), a.live, a.zs⟩
theorem Stp.sub (a : Stp H Z F H' Z' F') (h : ∀ x ∈ F2, x ∈ F') : Stp H Z F H' Z' F2 := ⟨a.keep, a.mono, fun x q => a.own x (h x q), a.frz, a.live, a.zs⟩
theorem Stp.wide (a : Stp H Z F H' Z' F') (h : ∀ x ∈ F, x ∈ F1) : Stp H Z F1 H' Z' F' :=
  ⟨fun x o q hx => a.keep x o q fun z => hx (h x z), a.mono, fun x q => (a.own x q).imp (h x) id, fun x q => (a.frz x q).imp id fun z => z.imp (h x) id, a.live, a.zs⟩
/-- a new object -/
theorem upd_live {a b : Addr} {o : HO} (h : H b ≠ none) : upd H a o b ≠ none := by
  unfold upd
  split
  · intro z; cases z
  · exact h
theorem Ext.new {a : Addr} {o : HO} (h : H a = none) : Ext H Z (upd H a o) Z :=
  ⟨fun x u q _ => by rw [upd_ne (ne_of_none q h)]; exact q, fun _ q => q, fun _ q => (nomatch q), fun _ q => .inl q, fun _ q => upd_live q, fun _ q => .inl q⟩
theorem Ext.newZ {a : Addr} {o : HO} (h : H a = none) : Ext H Z (upd H a o) (fun x => Z x ∨ x = a) :=
  ⟨fun x u q _ => by rw [upd_ne (ne_of_none q h)]; exact q, fun _ q => .inl q, fun _ q => (nomatch q), fun x q => q.elim .inl fun e => .inr (.inr (by rw [e]; exact h)), fun _ q => upd_live q,
    fun x q => q.elim .inl fun e => .inr (by subst e; rw [upd_same]; intro z; cases z)⟩

theorem SqL.keep {a : Addr} {xs : List V} (k : ∀ o, H a = some o → H' a = some o) (h : SqL K H a xs) : SqL K H' a xs := by
  rcases h with (h | ⟨o, h⟩) | h
  · exact .inl (.inl (k _ h))
  · exact .inl (.inr ⟨o, k _ h⟩)
  · exact .inr h
theorem SqT.keep {a : Addr} {xs : List V} (k : ∀ o, H a = some o → mutO o = false → H' a = some o) (h : SqT K H a xs) : SqT K H' a xs := by
  rcases h with (h | ⟨o, h⟩) | h
  · exact .inl (.inl (k _ h rfl))
  · exact .inl (.inr ⟨o, k _ h rfl⟩)
  · exact .inr h
theorem Rd.keep {a : Addr} {u : HO} (k : ∀ o, H a = some o → H' a = some o) (h : Rd H a u) : Rd H' a u := by
  rcases h with h | ⟨o, h⟩
  · exact .inl (k _ h)
  · exact .inr ⟨o, k _ h⟩
theorem Mu.not {F : List Addr} (m : ∀ a ∈ F, ∃ o, H a = some o ∧ mutO o = true) {a : Addr} {o : HO} (q : H a = some o) (n : mutO o = false) : a ∉ F := fun hf => by
  obtain ⟨u, e, z⟩ := m a hf
  rw [q] at e
  cases e
  rw [n] at z
  cases z

theorem FzL.step {a : Addr} {xs : List V} (s : Stp H Z F H' Z' F') (dz : ∀ a ∈ F, ¬ Z a) (h : FzL K H Z a xs) : FzL K H' Z' a xs :=
  h.imp (fun h => ⟨s.mono _ h.1, Rd.keep (fun o q => s.keep _ o q fun hf => dz _ hf h.1) h.2⟩) id

mutual
theorem Sh.step (s : Stp H Z F H' Z' F') (m : Mu H F) (dz : ∀ a ∈ F, ¬ Z a) : ∀ {v : V} {d : D}, Sh K H Z v d → Sh K H' Z' v d
  | _, _, .non => .non
  | _, _, .bl b => .bl b
  | _, _, .int i => .int i
  | _, _, .str x => .str x
  | _, _, .lst z r => .lst (z.step s dz) (ShA.step s m dz r)
  | _, _, .tup h r => .tup (s.keep _ _ h (Mu.not m h rfl)) (ShA.step s m dz r)
  | _, _, .dk z h e r => .dk (s.mono _ z) (s.keep _ _ h fun hf => dz _ hf z) e (ShA.step s m dz r)
  | _, _, .dt z h e r => .dt (s.mono _ z) (s.keep _ _ h fun hf => dz _ hf z) e (ShA.step s m dz r)
theorem ShA.step (s : Stp H Z F H' Z' F') (m : Mu H F) (dz : ∀ a ∈ F, ¬ Z a) : ∀ {vs : List V} {ds : List D}, ShA K H Z vs ds → ShA K H' Z' vs ds
  | _, _, .nil => .nil
  | _, _, .cons h r => .cons (Sh.step s m dz h) (ShA.step s m dz r)
end
mutual
theorem Rep.step (s : Stp H Z F H' Z' F') (m : Mu H F) (dz : ∀ a ∈ F, ¬ Z a) : ∀ {t : T} {v : V} {d : D} {f : List Addr}, Rep K H Z t v d f → (∀ a ∈ f, a ∉ F) → Rep K H' Z' t v d f
  | _, _, _, _, .no, _ => .no
  | _, _, _, _, .sh h, _ => .sh (h.step s m dz)
  | _, _, _, _, .ol h r, q => .ol (s.keep _ _ h (q _ List.mem_cons_self)) (RepA.step s m dz r fun a ha => q a (List.mem_cons_of_mem _ ha))
  | _, _, _, _, .pr h r1 r2, q => .pr (s.keep _ _ h (Mu.not m h rfl))
      (Rep.step s m dz r1 fun a ha => q a (List.mem_append_left _ ha)) (Rep.step s m dz r2 fun a ha => q a (List.mem_append_right _ ha))
  | _, _, _, _, .dk h e r, q => .dk (s.keep _ _ h (q _ List.mem_cons_self)) e (RepA.step s m dz r fun a ha => q a (List.mem_cons_of_mem _ ha))
  | _, _, _, _, .dt h e r, q => .dt (s.keep _ _ h (q _ List.mem_cons_self)) e (RepA.step s m dz r fun a ha => q a (List.mem_cons_of_mem _ ha))
  | _, _, _, _, .ex z h k, _ => .ex (s.mono _ z) (s.keep _ _ h fun q => dz _ q z) fun p hp => let ⟨v, h1, h2⟩ := k p hp; ⟨v, h1, h2.step s m dz⟩
theorem RepA.step (s : Stp H Z F H' Z' F') (m : Mu H F) (dz : ∀ a ∈ F, ¬ Z a) : ∀ {t : T} {vs : List V} {ds : List D} {f : List Addr}, RepA K H Z t vs ds f → (∀ a ∈ f, a ∉ F) → RepA K H' Z' t vs ds f
  | _, _, _, _, .nil, _ => .nil
  | _, _, _, _, .cons h r, q => .cons (Rep.step s m dz h fun a ha => q a (List.mem_append_left _ ha)) (RepA.step s m dz r fun a ha => q a (List.mem_append_right _ ha))
end
theorem Env.step (s : Stp H Z F H' Z' F') (m : Mu H F) (dz : ∀ a ∈ F, ¬ Z a) : ∀ {Γ : List T} {σ : L2.St} {δ : List D} {f : List Addr}, Env K H Z Γ σ δ f → (∀ a ∈ f, a ∉ F) → Env K H' Z' Γ σ δ f
  | _, _, _, _, .nil, _ => .nil
  | _, _, _, _, .no r, q => .no (r.step s m dz q)
  | _, _, _, _, .cons h r, q => .cons (h.step s m dz fun a ha => q a (List.mem_append_left _ ha)) (r.step s m dz fun a ha => q a (List.mem_append_right _ ha))
mutual
theorem Rep.mu : ∀ {t : T} {v : V} {d : D} {f : List Addr}, Rep K H Z t v d f → Mu H f
  | _, _, _, _, .no, _, q => nomatch q
  | _, _, _, _, .sh _, _, q => nomatch q
  | _, _, _, _, .ol h r, a, q => (List.mem_cons.mp q).elim (fun e => by subst e; exact ⟨_, h, rfl⟩) fun q => RepA.mu r a q
  | _, _, _, _, .dk h _ r, a, q => (List.mem_cons.mp q).elim (fun e => by subst e; exact ⟨_, h, rfl⟩) fun q => RepA.mu r a q
  | _, _, _, _, .dt h _ r, a, q => (List.mem_cons.mp q).elim (fun e => by subst e; exact ⟨_, h, rfl⟩) fun q => RepA.mu r a q
  | _, _, _, _, .pr _ r1 r2, a, q => (List.mem_append.mp q).elim (fun z => Rep.mu r1 a z) fun z => Rep.mu r2 a z
  | _, _, _, _, .ex _ _ _, _, q => nomatch q
theorem RepA.mu : ∀ {t : T} {vs : List V} {ds : List D} {f : List Addr}, RepA K H Z t vs ds f → Mu H f
  | _, _, _, _, .nil, _, q => nomatch q
  | _, _, _, _, .cons h r, a, q => (List.mem_append.mp q).elim (fun z => Rep.mu h a z) fun z => RepA.mu r a z
end
theorem Env.mu : ∀ {Γ : List T} {σ : L2.St} {δ : List D} {f : List Addr}, Env K H Z Γ σ δ f → Mu H f
  | _, _, _, _, .nil, _, q => nomatch q
  | _, _, _, _, .no r, a, q => Env.mu r a q
  | _, _, _, _, .cons h r, a, q => (List.mem_append.mp q).elim (fun z => h.mu a z) fun z => Env.mu r a z
theorem Mu.some {f : List Addr} (m : Mu H f) {a : Addr} (h : a ∈ f) : H a ≠ none := fun z => by obtain ⟨xs, e, _⟩ := m a h; rw [z] at e; cases e
theorem Mu.one {a : Addr} {o : HO} (h : H a = Option.some o) (q : mutO o = true := by rfl) : Mu H [a] := fun x hx => by
  have e : x = a := by simpa using hx
  rw [e]
  exact ⟨o, h, q⟩
theorem Mu.nil : Mu H [] := fun _ h => nomatch h
theorem Sh.ext {v : V} {d : D} (s : Ext H Z H' Z') (h : Sh K H Z v d) : Sh K H' Z' v d := h.step s Mu.nil (fun _ q => nomatch q)
theorem ShA.ext {v : List V} {d : List D} (s : Ext H Z H' Z') (h : ShA K H Z v d) : ShA K H' Z' v d := h.step s Mu.nil (fun _ q => nomatch q)
theorem Rep.ext {t : T} {v : V} {d : D} {f : List Addr} (s : Ext H Z H' Z') (h : Rep K H Z t v d f) : Rep K H' Z' t v d f := h.step s Mu.nil (fun _ q => nomatch q) fun _ _ q => nomatch q
theorem RepA.ext {t : T} {v : List V} {d : List D} {f : List Addr} (s : Ext H Z H' Z') (h : RepA K H Z t v d f) : RepA K H' Z' t v d f := h.step s Mu.nil (fun _ q => nomatch q) fun _ _ q => nomatch q
variable {Γ : List T} {σ : L2.St} {δ : List D}
theorem Ok.mu (o : Ok K Γ σ δ H Z F) : Mu H F := o.env.mu
theorem Ok.ext (s : Ext H Z H' Z') (o : Ok K Γ σ δ H Z F) : Ok K Γ σ δ H' Z' F :=
  ⟨o.env.step s Mu.nil (fun _ q => nomatch q) (fun _ _ q => nomatch q), o.nd, fun a ha hz => (s.frz a hz).elim (o.dz a ha) (fun z => z.elim (fun q => nomatch q) fun q => o.mu.some ha q), fun a hz => (s.zs a hz).elim (fun z => s.live a (o.zs a z)) id⟩
/-- a slot's value -/
theorem Env.get : ∀ {Γ : List T} {σ : L2.St} {δ : List D} {f : List Addr} {i : Nat} {t : T} {d : D}, Env K H Z Γ σ δ f → Γ[i]? = some t → t ≠ .no → δ[i]? = some d → ∃ v g, σ[i]? = some (some v) ∧ Rep K H Z t v d g ∧ ∀ a ∈ g, a ∈ f
  | _, _, _, _, i, _, _, .nil, h, _, _ => by simp at h
  | _, _, _, _, 0, t, _, .no r, h, n, _ => by simp at h; exact absurd h.symm n
  | _, _, _, _, i + 1, t, d, .no r, h, n, e => by
    obtain ⟨v, g, h1, h2, h3⟩ := Env.get (i := i) r (by simpa using h) n (by simpa using e)
    exact ⟨v, g, by simpa using h1, h2, h3⟩
  | _, _, _, _, 0, t, d, .cons q r, h, n, e => by
    simp at h e; subst h; subst e
    exact ⟨_, _, rfl, q, fun a ha => List.mem_append_left _ ha⟩
  | _, _, _, _, i + 1, t, d, .cons q r, h, n, e => by
    obtain ⟨v, g, h1, h2, h3⟩ := Env.get (i := i) r (by simpa using h) n (by simpa using e)
    exact ⟨v, g, by simpa using h1, h2, fun a ha => List.mem_append_right _ (h3 a ha)⟩
theorem Rep.len : ∀ {vs : List V} {ds : List D} {t : T} {f : List Addr}, RepA K H Z t vs ds f → vs.length = ds.length
  | _, _, _, _, .nil => rfl
  | _, _, _, _, .cons _ r => by simp [Rep.len r]
theorem ShA.len : ∀ {vs : List V} {ds : List D}, ShA K H Z vs ds → vs.length = ds.length
  | _, _, .nil => rfl
  | _, _, .cons _ r => by simp [ShA.len r]
theorem Env.len : ∀ {Γ : List T} {σ : L2.St} {δ : List D} {f : List Addr}, Env K H Z Γ σ δ f → σ.length = Γ.length ∧ δ.length = Γ.length
  | _, _, _, _, .nil => ⟨rfl, rfl⟩
  | _, _, _, _, .no r => by simp [Env.len r]
  | _, _, _, _, .cons _ r => by simp [Env.len r]
end
end Pv

set_option Elab.async false
set_option linter.all false
set_option maxRecDepth 100000
/-! Pv2: expressions that change nothing: their values as functions of the slots' data. -/
namespace Pv
open PySem PySem.Spec PyProof.Rows L2
abbrev EF := List D → Option D
abbrev EM := List D → Option (D × List D)
abbrev BF := List D → Option Bool
abbrev BM := List D → Option (Bool × List D)
abbrev LF := List D → Option (List D)
abbrev LM := List D → Option (List D × List D)

/-- what is read, the slots as they were -/
def tP (K : PySem.W.Frag) (Γ : List T) (t : T) (f : EF) : TE := fun σ H Q => ∃ δ Z F d, Ok K Γ σ δ H Z F ∧ f δ = some d ∧
  ∀ v H' Z' g, Ext H Z H' Z' → Rep K H' Z' t v d g → Q v H'
/-- what is made anew -/
def tC (K : PySem.W.Frag) (Γ : List T) (t : T) (f : EF) : TE := fun σ H Q => ∃ δ Z F d, Ok K Γ σ δ H Z F ∧ f δ = some d ∧
  ∀ v H' Z' g, Ext H Z H' Z' → Rep K H' Z' t v d g → g.Nodup → (∀ a ∈ g, H a = none ∧ ¬ Z' a) → Q v H'
/-- what may change the slots -/
def tM (K : PySem.W.Frag) (Γ Γ' : List T) (t : T) (f : EM) : TE := fun σ H Q => ∃ δ Z F d δ', Ok K Γ σ δ H Z F ∧ f δ = some (d, δ') ∧
  ∀ v H' Z' F' g, Stp H Z F H' Z' (F' ++ g) → Ok K Γ' σ δ' H' Z' F' → Rep K H' Z' t v d g → (F' ++ g).Nodup → (∀ a ∈ g, ¬ Z' a) → Q v H'
def bP (K : PySem.W.Frag) (Γ : List T) (f : BF) : TT := fun σ H Q => ∃ δ Z F b, Ok K Γ σ δ H Z F ∧ f δ = some b ∧ ∀ H' Z', Ext H Z H' Z' → Q b H'
def bM (K : PySem.W.Frag) (Γ Γ' : List T) (f : BM) : TT := fun σ H Q => ∃ δ Z F b δ', Ok K Γ σ δ H Z F ∧ f δ = some (b, δ') ∧ ∀ H' Z' F', Stp H Z F H' Z' F' → Ok K Γ' σ δ' H' Z' F' → Q b H'
def aP (K : PySem.W.Frag) (Γ ts : List T) (f : LF) : TA := fun σ H Q => ∃ δ Z F ds, Ok K Γ σ δ H Z F ∧ f δ = some ds ∧
  ∀ vs H' Z' g, Ext H Z H' Z' → Env K H' Z' ts (vs.map some) ds g → Q vs H'

theorem _root_.L2.PE.imp {X : Cx} {e : Expr} {t t' : TE} (h : PE X e t) (i : ∀ σ H Q, t' σ H Q → t σ H Q) : PE X e t' := ⟨fun pins s σ H Q I q => h.run pins s σ H Q I (i _ _ _ q)⟩
theorem _root_.L2.PT.imp {X : Cx} {e : Expr} {t t' : TT} (h : PT X e t) (i : ∀ σ H Q, t' σ H Q → t σ H Q) : PT X e t' := ⟨fun pins s σ H Q I q => h.run pins s σ H Q I (i _ _ _ q)⟩
theorem _root_.L2.PW.imp {X : Cx} {e : Expr} {t t' : TT} (h : PW X e t) (i : ∀ σ H Q, t' σ H Q → t σ H Q) : PW X e t' := ⟨fun w pins s σ H Q I q => h.run w pins s σ H Q I (i _ _ _ q)⟩
theorem _root_.L2.PA.imp {X : Cx} {e : List Expr} {t t' : TA} (h : PA X e t) (i : ∀ σ H Q, t' σ H Q → t σ H Q) : PA X e t' := ⟨fun p pins s σ H Q I q => h.run p pins s σ H Q I (i _ _ _ q)⟩

/-! ### the shapes -/
def xV (i : Nat) : EF := fun δ => δ[i]?
def xK (d : D) : EF := fun _ => some d
def x1 (o : D → Option D) (a : EF) : EF := fun δ => (a δ).bind o
def x2 (o : D → D → Option D) (a b : EF) : EF := fun δ => (a δ).bind fun x => (b δ).bind fun y => o x y
def xNil : LF := fun _ => some []
def xCons (a : EF) (r : LF) : LF := fun δ => (a δ).bind fun x => (r δ).bind fun xs => some (x :: xs)
def xL (o : List D → Option D) (r : LF) : EF := fun δ => (r δ).bind o
def toB : D → Option Bool | .bool b => some b | _ => none
def bE (f : EF) : BF := fun δ => (f δ).bind toB
def bNot (f : BF) : BF := fun δ => (f δ).bind fun b => some (!b)
def bAnd (f g : BF) : BF := fun δ => (f δ).bind fun b => if b then g δ else some false
def bOr (f g : BF) : BF := fun δ => (f δ).bind fun b => if b then some true else g δ
def xB (f : BF) : EF := fun δ => (f δ).bind fun b => some (.bool b)
def xIf (c : BF) (a b : EF) : EF := fun δ => (c δ).bind fun k => if k then a δ else b δ

section
variable {K : PySem.W.Frag} {X : Cx} {Γ : List T} {H H' : Hp} {Z Z' : FzT}
theorem Sh.rep {v : V} {d : D} (h : Sh K H Z v d) : Rep K H Z .sh v d [] := .sh h
theorem Rep.shOf {v : V} {d : D} {g : List Addr} (h : Rep K H Z .sh v d g) : Sh K H Z v d ∧ g = [] := by cases h; exact ⟨‹_›, rfl⟩
theorem cOfP {f : EF} {e : Expr} (h : PE X e (tP X.K Γ .sh f)) : PE X e (tC X.K Γ .sh f) := h.imp fun σ H Q ⟨δ, Z, F, d, o, e, k⟩ => ⟨δ, Z, F, d, o, e, fun v H' Z' g s r => by
  obtain ⟨_, rfl⟩ := r.shOf
  exact k v H' Z' [] s r .nil (fun _ q => nomatch q)⟩
theorem pOfC {t : T} {f : EF} {e : Expr} (h : PE X e (tC X.K Γ t f)) : PE X e (tP X.K Γ t f) := h.imp fun σ H Q ⟨δ, Z, F, d, o, e, k⟩ => ⟨δ, Z, F, d, o, e, fun v H' Z' g s r _ _ => k v H' Z' g s r⟩
def mOf (f : EF) : EM := fun δ => (f δ).map (·, δ)
theorem Ok.live {σ : L2.St} {δ : List D} {F : List Addr} (o : Ok K Γ σ δ H Z F) {a : Addr} (h : a ∈ F) : H a ≠ none := o.mu.some h
theorem nodup_app {F g : List Addr} (h1 : F.Nodup) (h2 : g.Nodup) (h : ∀ a ∈ g, a ∉ F) : (F ++ g).Nodup :=
  List.nodup_append.mpr ⟨h1, h2, fun a ha b hb e => h b hb (e ▸ ha)⟩
theorem mOfC {t : T} {f : EF} {e : Expr} (h : PE X e (tC X.K Γ t f)) : PE X e (tM X.K Γ Γ t (mOf f)) := h.imp fun σ H Q ⟨δ, Z, F, d, δ', o, e, k⟩ => by
  unfold mOf at e
  cases q : f δ with
  | none => rw [q] at e; cases e
  | some d' =>
    rw [q] at e; cases e
    refine ⟨δ, Z, F, d, o, q, fun v H' Z' g s r nd hz => k v H' Z' F g ?_ (o.ext s) r (nodup_app o.nd nd fun a ha hf => o.live hf (hz a ha).1) fun a ha => (hz a ha).2⟩
    exact ⟨s.stp.keep, s.mono, fun a ha => (List.mem_append.mp ha).imp id fun z => (hz a z).1, s.stp.frz, s.live, s.zs⟩
theorem mOfP {f : EF} {e : Expr} (h : PE X e (tP X.K Γ .sh f)) : PE X e (tM X.K Γ Γ .sh (mOf f)) := mOfC (cOfP h)

theorem toB_sh {v : V} {d : D} {b : Bool} (r : Sh K H Z v d) (e : toB d = some b) : v = .bl b ∧ d = .bool b := by
  cases r with
  | bl b' => cases e; exact ⟨rfl, rfl⟩
  | _ => cases e
/-! ### names, constants -/
theorem cV (i : Nat) {x : Str} {pos : Pos} {t : T} (ht : Γ[i]? = some t) (hn : t ≠ .no) (h : PE X (.Name x pos) (tVar i)) : PE X (.Name x pos) (tP X.K Γ t (xV i)) := h.imp fun σ H Q ⟨δ, Z, F, d, o, e, k⟩ => by
  obtain ⟨v, g, h1, h2, _⟩ := o.env.get ht hn e
  exact ⟨v, h1, k v H Z g .refl h2⟩
theorem cInt {i : Int} {j pos} : PE X (.Constant (.int i) j pos) (tP X.K Γ .sh (xK (.int i))) := pe_int.imp fun σ H Q ⟨δ, Z, F, d, o, e, k⟩ => by cases e; exact k _ H Z [] .refl (.sh (.int i))
theorem cBl {b : Bool} {j pos} : PE X (.Constant (.bool b) j pos) (tP X.K Γ .sh (xK (.bool b))) := pe_bl.imp fun σ H Q ⟨δ, Z, F, d, o, e, k⟩ => by cases e; exact k _ H Z [] .refl (.sh (.bl b))
theorem cNon {j pos} : PE X (.Constant .none j pos) (tP X.K Γ .sh (xK .none)) := pe_non.imp fun σ H Q ⟨δ, Z, F, d, o, e, k⟩ => by cases e; exact k _ H Z [] .refl (.sh .non)
theorem cStr {x : Str} {j pos} : PE X (.Constant (.str x) j pos) (tP X.K Γ .sh (xK (.str x))) := pe_str.imp fun σ H Q ⟨δ, Z, F, d, o, e, k⟩ => by cases e; exact k _ H Z [] .refl (.sh (.str x))

/-! ### operators by their data -/
/-- r holds where the data's operation gives something -/
def OpS (K : PySem.W.Frag) (r : R2) (s t u : T) (o : D → D → Option D) : Prop :=
  ∀ (H : Hp) (Z : FzT) (x y : V) (dx dy d : D) (f g : List Addr) (Q : VK), Rep K H Z s x dx f → Rep K H Z t y dy g → o dx dy = some d → (∀ v H' Z' h, Ext H Z H' Z' → Rep K H' Z' u v d h → Q v H') → r x y H Q
theorem p2 {r : R2} {s t u : T} {o : D → D → Option D} {fa fb : EF} (hs : OpS K r s t u o) {σ : L2.St} {Q : VK} (h : tP K Γ u (x2 o fa fb) σ H Q) : tOp r (tP K Γ s fa) (tP K Γ t fb) σ H Q := by
  obtain ⟨δ, Z, F, d, ok, e, k⟩ := h
  unfold x2 at e
  obtain ⟨x, ex, e⟩ := Option.bind_eq_some_iff.mp e
  obtain ⟨y, ey, e⟩ := Option.bind_eq_some_iff.mp e
  exact ⟨δ, Z, F, x, ok, ex, fun v H1 Z1 g s1 r1 => ⟨δ, Z1, F, y, ok.ext s1, ey, fun w H2 Z2 g2 s2 r2 =>
    hs H2 Z2 v w x y d _ _ Q (r1.ext s2) r2 e fun v' H' Z' h s3 r3 => k v' H' Z' h (s1.trans (s2.trans s3)) r3⟩⟩
theorem c2 {op : Operator} {r : R2} {s t u : T} {o : D → D → Option D} {fa fb : EF} {a b : Expr} {pos : Pos} (ho : OpR X (binaryOp op) r) (hs : OpS X.K r s t u o) (ha : PE X a (tP X.K Γ s fa)) (hb : PE X b (tP X.K Γ t fb)) :
    PE X (.BinOp a op b pos) (tP X.K Γ u (x2 o fa fb)) := (pe_op ho ha hb).imp fun _ _ _ => p2 hs
theorem cCmp {op : CmpOp} {r : R2} {s t u : T} {o : D → D → Option D} {fa fb : EF} {a b : Expr} {pos : Pos} (ho : OpR X (compareOp op) r) (hs : OpS X.K r s t u o) (ha : PE X a (tP X.K Γ s fa)) (hb : PE X b (tP X.K Γ t fb)) (hm : behindInMarks op b = false) :
    PE X (.Compare a [op] [b] pos) (tP X.K Γ u (x2 o fa fb)) := (pe_cmpR ho ha hb hm).imp fun _ _ _ => p2 hs
theorem tB_of {te : TE} {f : EF} {σ : L2.St} {Q : Bool → Hp → Prop} (hq : ∀ Q, tP K Γ .sh f σ H Q → te σ H Q) (h : bP K Γ (bE f) σ H Q) : te σ H fun x H' => ∃ k, x = .bl k ∧ Q k H' := by
  obtain ⟨δ, Z, F, b, ok, e, k⟩ := h
  obtain ⟨d, ed, e⟩ := Option.bind_eq_some_iff.mp e
  refine hq _ ⟨δ, Z, F, d, ok, ed, fun v H' Z' g s r => ?_⟩
  obtain ⟨rfl, rfl⟩ := toB_sh r.shOf.1 e
  exact ⟨b, rfl, k H' Z' s⟩
theorem qCmp {op : CmpOp} {r : R2} {s t : T} {o : D → D → Option D} {fa fb : EF} {a b : Expr} {pos : Pos} (ho : OpR X (compareOp op) r) (hs : OpS X.K r s t .sh o) (ha : PE X a (tP X.K Γ s fa)) (hb : PE X b (tP X.K Γ t fb)) (hm : behindInMarks op b = false) :
    PT X (.Compare a [op] [b] pos) (bP X.K Γ (bE (x2 o fa fb))) := (pt_cmpR ho ha hb hm).imp fun _ _ _ h => tB_of (fun Q => p2 hs) h
/-- an expression whose value is a bool -/
theorem qVal {f : EF} {e : Expr} (h : PE X e (tP X.K Γ .sh f)) (he : ∀ whole, isTrue e X.env whole = (do let v ← whole; standAt e.pos; holding [v] (truthy v)) := by intro _; rfl) : PT X e (bP X.K Γ (bE f)) :=
  (pt_val h he).imp fun _ _ _ h => tB_of (fun Q q => q) h
theorem qNot {f : BF} {e : Expr} {pos : Pos} (h : PT X e (bP X.K Γ f)) : PT X (.UnaryOp .Not e pos) (bP X.K Γ (bNot f)) := (pt_not h).imp fun σ H Q ⟨δ, Z, F, b, ok, e, k⟩ => by
  obtain ⟨c, ec, e⟩ := Option.bind_eq_some_iff.mp e
  cases e
  exact ⟨δ, Z, F, c, ok, ec, k⟩
theorem qAnd1 {f : BF} {a : Expr} {pos : Pos} (h : PT X a (bP X.K Γ f)) : PW X (.BoolOp .And [a] pos) (bP X.K Γ f) := pw_and1 h
theorem qOr1 {f : BF} {a : Expr} {pos : Pos} (h : PT X a (bP X.K Γ f)) : PW X (.BoolOp .Or [a] pos) (bP X.K Γ f) := pw_or1 h
theorem qAnd {f g : BF} {a b : Expr} {rest : List Expr} {pos : Pos} (h : PT X a (bP X.K Γ f)) (h2 : PW X (.BoolOp .And (b :: rest) pos) (bP X.K Γ g)) : PW X (.BoolOp .And (a :: b :: rest) pos) (bP X.K Γ (bAnd f g)) :=
  (pw_and h h2).imp fun σ H Q ⟨δ, Z, F, b, ok, e, k⟩ => by
    obtain ⟨c, ec, e⟩ := Option.bind_eq_some_iff.mp e
    refine ⟨δ, Z, F, c, ok, ec, fun H1 Z1 s1 => ?_⟩
    cases c with
    | true => exact ⟨δ, Z1, F, b, ok.ext s1, e, fun H' Z' s => k H' Z' (s1.trans s)⟩
    | false => cases e; exact k H1 Z1 s1
theorem qOr {f g : BF} {a b : Expr} {rest : List Expr} {pos : Pos} (h : PT X a (bP X.K Γ f)) (h2 : PW X (.BoolOp .Or (b :: rest) pos) (bP X.K Γ g)) : PW X (.BoolOp .Or (a :: b :: rest) pos) (bP X.K Γ (bOr f g)) :=
  (pw_or h h2).imp fun σ H Q ⟨δ, Z, F, b, ok, e, k⟩ => by
    obtain ⟨c, ec, e⟩ := Option.bind_eq_some_iff.mp e
    refine ⟨δ, Z, F, c, ok, ec, fun H1 Z1 s1 => ?_⟩
    cases c with
    | true => cases e; exact k H1 Z1 s1
    | false => exact ⟨δ, Z1, F, b, ok.ext s1, e, fun H' Z' s => k H' Z' (s1.trans s)⟩
def xAnd (a b : EF) : EF := fun δ => (a δ).bind fun x => (toB x).bind fun k => if k then b δ else some (.bool false)
def xOr (a b : EF) : EF := fun δ => (a δ).bind fun x => (toB x).bind fun k => if k then some (.bool true) else b δ
def xNot (a : EF) : EF := fun δ => (a δ).bind fun x => (toB x).bind fun k => some (.bool (!k))
theorem vOne {op} {f : EF} {a : Expr} {pos : Pos} (h : PE X a (tP X.K Γ .sh f)) : PE X (.BoolOp op [a] pos) (tP X.K Γ .sh f) := pe_one h
theorem vAnd {f g : EF} {a b : Expr} {rest : List Expr} {pos : Pos} (h : PE X a (tP X.K Γ .sh f)) (h2 : PE X (.BoolOp .And (b :: rest) pos) (tP X.K Γ .sh g)) : PE X (.BoolOp .And (a :: b :: rest) pos) (tP X.K Γ .sh (xAnd f g)) :=
  (pe_and h h2).imp fun σ H Q ⟨δ, Z, F, d, ok, e, k⟩ => by
    obtain ⟨x, ex, e⟩ := Option.bind_eq_some_iff.mp e
    obtain ⟨c, ec, e⟩ := Option.bind_eq_some_iff.mp e
    refine ⟨δ, Z, F, x, ok, ex, fun v H1 Z1 g1 s1 r1 => ?_⟩
    obtain ⟨rfl, rfl⟩ := toB_sh r1.shOf.1 ec
    refine ⟨c, rfl, ?_⟩
    cases c with
    | true => exact ⟨δ, Z1, F, d, ok.ext s1, e, fun v H' Z' g s r => k v H' Z' g (s1.trans s) r⟩
    | false => cases e; exact k _ H1 Z1 [] s1 (.sh (.bl false))
theorem vOr {f g : EF} {a b : Expr} {rest : List Expr} {pos : Pos} (h : PE X a (tP X.K Γ .sh f)) (h2 : PE X (.BoolOp .Or (b :: rest) pos) (tP X.K Γ .sh g)) : PE X (.BoolOp .Or (a :: b :: rest) pos) (tP X.K Γ .sh (xOr f g)) :=
  (pe_or h h2).imp fun σ H Q ⟨δ, Z, F, d, ok, e, k⟩ => by
    obtain ⟨x, ex, e⟩ := Option.bind_eq_some_iff.mp e
    obtain ⟨c, ec, e⟩ := Option.bind_eq_some_iff.mp e
    refine ⟨δ, Z, F, x, ok, ex, fun v H1 Z1 g1 s1 r1 => ?_⟩
    obtain ⟨rfl, rfl⟩ := toB_sh r1.shOf.1 ec
    refine ⟨c, rfl, ?_⟩
    cases c with
    | true => cases e; exact k _ H1 Z1 [] s1 (.sh (.bl true))
    | false => exact ⟨δ, Z1, F, d, ok.ext s1, e, fun v H' Z' g s r => k v H' Z' g (s1.trans s) r⟩
theorem vNot {f : EF} {a : Expr} {pos : Pos} (h : PE X a (tP X.K Γ .sh f)) : PE X (.UnaryOp .Not a pos) (tP X.K Γ .sh (xNot f)) :=
  (pe_not h).imp fun σ H Q ⟨δ, Z, F, d, ok, e, k⟩ => by
    obtain ⟨x, ex, e⟩ := Option.bind_eq_some_iff.mp e
    obtain ⟨c, ec, e⟩ := Option.bind_eq_some_iff.mp e
    cases e
    refine ⟨δ, Z, F, x, ok, ex, fun v H1 Z1 g1 s1 r1 => ?_⟩
    obtain ⟨rfl, rfl⟩ := toB_sh r1.shOf.1 ec
    exact ⟨c, rfl, k _ H1 Z1 [] s1 (.sh (.bl _))⟩
theorem vIf {t : T} {c : BF} {f g : EF} {ec a b : Expr} {pos : Pos} (hc : PT X ec (bP X.K Γ c)) (ha : PE X a (tP X.K Γ t f)) (hb : PE X b (tP X.K Γ t g)) : PE X (.IfExp ec a b pos) (tP X.K Γ t (xIf c f g)) :=
  (pe_ifExp hc ha hb).imp fun σ H Q ⟨δ, Z, F, d, ok, e, k⟩ => by
    obtain ⟨c, ec, e⟩ := Option.bind_eq_some_iff.mp e
    refine ⟨δ, Z, F, c, ok, ec, fun H1 Z1 s1 => ?_⟩
    cases c with
    | true => exact ⟨δ, Z1, F, d, ok.ext s1, e, fun v H' Z' g s r => k v H' Z' g (s1.trans s) r⟩
    | false => exact ⟨δ, Z1, F, d, ok.ext s1, e, fun v H' Z' g s r => k v H' Z' g (s1.trans s) r⟩

/-! ### arguments -/
theorem aNil : PA X [] (aP X.K Γ [] xNil) := pa_nil.imp fun σ H Q ⟨δ, Z, F, d, ok, e, k⟩ => by cases e; exact k [] H Z [] .refl .nil
theorem aCons {t : T} {ts : List T} {f : EF} {r : LF} {e : Expr} {es : List Expr} (ha : PE X e (tP X.K Γ t f)) (hr : PA X es (aP X.K Γ ts r)) (hs : starEach (e :: es) X.env = (false, eval e X.env) :: starEach es X.env := by rfl) :
    PA X (e :: es) (aP X.K Γ (t :: ts) (xCons f r)) := (pa_cons ha hr hs).imp fun σ H Q ⟨δ, Z, F, d, ok, e, k⟩ => by
  obtain ⟨x, ex, e⟩ := Option.bind_eq_some_iff.mp e
  obtain ⟨xs, exs, e⟩ := Option.bind_eq_some_iff.mp e
  cases e
  exact ⟨δ, Z, F, x, ok, ex, fun v H1 Z1 g1 s1 r1 => ⟨δ, Z1, F, xs, ok.ext s1, exs, fun vs H2 Z2 g2 s2 r2 => k (v :: vs) H2 Z2 _ (s1.trans s2) (.cons (r1.ext s2) r2)⟩⟩
/-- a call by values -/
def CalS (K : PySem.W.Frag) (r : List V → Hp → VK → Prop) (ts : List T) (u : T) (o : List D → Option D) : Prop :=
  ∀ (H : Hp) (Z : FzT) (vs : List V) (ds : List D) (d : D) (g : List Addr) (Q : VK), Env K H Z ts (vs.map some) ds g → o ds = some d → (∀ v H' Z' h, Ext H Z H' Z' → Rep K H' Z' u v d h → Q v H') → r vs H Q
/-- .. that makes something new -/
def CalC (K : PySem.W.Frag) (r : List V → Hp → VK → Prop) (ts : List T) (u : T) (o : List D → Option D) : Prop :=
  ∀ (H : Hp) (Z : FzT) (vs : List V) (ds : List D) (d : D) (g : List Addr) (Q : VK), Env K H Z ts (vs.map some) ds g → o ds = some d →
    (∀ v H' Z' h, Ext H Z H' Z' → Rep K H' Z' u v d h → h.Nodup → (∀ a ∈ h, H a = none ∧ ¬ Z' a) → Q v H') → r vs H Q
theorem pL {r : List V → Hp → VK → Prop} {ts : List T} {u : T} {o : List D → Option D} {f : LF} {σ : L2.St} {Q : VK} (hs : CalS K r ts u o) (h : tP K Γ u (xL o f) σ H Q) : tCB r (aP K Γ ts f) σ H Q := by
  obtain ⟨δ, Z, F, d, ok, e, k⟩ := h
  obtain ⟨ds, eds, e⟩ := Option.bind_eq_some_iff.mp e
  exact ⟨δ, Z, F, ds, ok, eds, fun vs H1 Z1 g s1 r1 => hs H1 Z1 vs ds d g Q r1 e fun v H' Z' h s2 r2 => k v H' Z' h (s1.trans s2) r2⟩
theorem pLC {r : List V → Hp → VK → Prop} {ts : List T} {u : T} {o : List D → Option D} {f : LF} {σ : L2.St} {Q : VK} (hs : CalC K r ts u o) (h : tC K Γ u (xL o f) σ H Q) : tCB r (aP K Γ ts f) σ H Q := by
  obtain ⟨δ, Z, F, d, ok, e, k⟩ := h
  obtain ⟨ds, eds, e⟩ := Option.bind_eq_some_iff.mp e
  refine ⟨δ, Z, F, ds, ok, eds, fun vs H1 Z1 g s1 r1 => hs H1 Z1 vs ds d g Q r1 e fun v H' Z' h s2 r2 nd hz => k v H' Z' h (s1.trans s2) r2 nd fun a ha => ⟨?_, (hz a ha).2⟩⟩
  cases q : H a with
  | none => rfl
  | some o => have := s1.keep a o q (by simp); rw [(hz a ha).1] at this; cases this
theorem cCallB {x : Str} {p pos : Pos} {e : Expr} {es : List Expr} {id : String} {r : List V → Hp → VK → Prop} {ts : List T} {u : T} {o : List D → Option D} {f : LF} (hc : CallR X (.builtin id) r) (hs : CalS X.K r ts u o) (hg : Gl X x) (hm : X.mg x = none) (hv : bootBuiltins x = some (.builtin id))
    (ha : PA X (e :: es) (aP X.K Γ ts f)) (hn : x ≠ "__name__" := by decide) (hdb : (x == ("__debug__" : Str)) = false := by decide)
    (he : starEach (e :: es) X.env = (false, eval e X.env) :: starEach es X.env := by rfl) (hpl : (backTo pos (starEach es X.env)).any (·.1) = false := by rfl) : PE X (.Call (.Name x p) (e :: es) [] pos) (tP X.K Γ u (xL o f)) :=
  (pe_callB hc hg hm hv ha hn hdb he hpl).imp fun _ _ _ => pL hs
theorem cCallT {x : Str} {p pos : Pos} {e : Expr} {es : List Expr} {ty : String} {r : List V → Hp → VK → Prop} {ts : List T} {u : T} {o : List D → Option D} {f : LF} (hc : CallR X (.type ty) r) (hs : CalS X.K r ts u o) (hg : Gl X x) (hm : X.mg x = none) (hv : bootBuiltins x = some (.type ty))
    (ha : PA X (e :: es) (aP X.K Γ ts f)) (hn : x ≠ "__name__" := by decide) (hdb : (x == ("__debug__" : Str)) = false := by decide)
    (he : starEach (e :: es) X.env = (false, eval e X.env) :: starEach es X.env := by rfl) (hpl : (backTo pos (starEach es X.env)).any (·.1) = false := by rfl) : PE X (.Call (.Name x p) (e :: es) [] pos) (tP X.K Γ u (xL o f)) :=
  (pe_callTy hc hg hm hv ha hn hdb he hpl).imp fun _ _ _ => pL hs
theorem cCallTC {x : Str} {p pos : Pos} {e : Expr} {es : List Expr} {ty : String} {r : List V → Hp → VK → Prop} {ts : List T} {u : T} {o : List D → Option D} {f : LF} (hc : CallR X (.type ty) r) (hs : CalC X.K r ts u o) (hg : Gl X x) (hm : X.mg x = none) (hv : bootBuiltins x = some (.type ty))
    (ha : PA X (e :: es) (aP X.K Γ ts f)) (hn : x ≠ "__name__" := by decide) (hdb : (x == ("__debug__" : Str)) = false := by decide)
    (he : starEach (e :: es) X.env = (false, eval e X.env) :: starEach es X.env := by rfl) (hpl : (backTo pos (starEach es X.env)).any (·.1) = false := by rfl) : PE X (.Call (.Name x p) (e :: es) [] pos) (tC X.K Γ u (xL o f)) :=
  (pe_callTy hc hg hm hv ha hn hdb he hpl).imp fun _ _ _ => pLC hs
theorem cCallBC {x : Str} {p pos : Pos} {e : Expr} {es : List Expr} {id : String} {r : List V → Hp → VK → Prop} {ts : List T} {u : T} {o : List D → Option D} {f : LF} (hc : CallR X (.builtin id) r) (hs : CalC X.K r ts u o) (hg : Gl X x) (hm : X.mg x = none) (hv : bootBuiltins x = some (.builtin id))
    (ha : PA X (e :: es) (aP X.K Γ ts f)) (hn : x ≠ "__name__" := by decide) (hdb : (x == ("__debug__" : Str)) = false := by decide)
    (he : starEach (e :: es) X.env = (false, eval e X.env) :: starEach es X.env := by rfl) (hpl : (backTo pos (starEach es X.env)).any (·.1) = false := by rfl) : PE X (.Call (.Name x p) (e :: es) [] pos) (tC X.K Γ u (xL o f)) :=
  (pe_callB hc hg hm hv ha hn hdb he hpl).imp fun _ _ _ => pLC hs

/-! ### displays -/
theorem Env.shA : ∀ {ts : List T} {vs : List V} {ds : List D} {g : List Addr}, Env K H Z ts (vs.map some) ds g → ts.all (· == .sh) = true → ShA K H Z vs ds
  | [], [], _, _, h, _ => by cases h; exact .nil
  | [], v :: vs, _, _, h, _ => by cases h
  | t :: ts, [], _, _, h, _ => by cases h
  | t :: ts, v :: vs, _, _, h, q => by
    rw [List.all_cons, Bool.and_eq_true] at q
    have e : t = .sh := by simpa using q.1
    subst e
    cases h with
    | cons r h => exact .cons r.shOf.1 (Env.shA h q.2)
def mkTup (ds : List D) : Option D := if ds.length ≤ sizeLine then some (.tuple ds) else none
def mkLst (ds : List D) : Option D := if ds.length ≤ sizeLine then some (.list ds) else none
theorem cTup {x1} {es : List Expr} {pos : Pos} {ts : List T} {f : LF} (h : PA X es (aP X.K Γ ts f)) (ht : ts.all (· == .sh) = true := by rfl) : PE X (.Tuple es x1 pos) (tP X.K Γ .sh (xL mkTup f)) :=
  (pe_tup h).imp fun σ H Q ⟨δ, Z, F, d, ok, e, k⟩ => by
    obtain ⟨ds, eds, e⟩ := Option.bind_eq_some_iff.mp e
    refine ⟨δ, Z, F, ds, ok, eds, fun vs H1 Z1 g s1 r1 => ?_⟩
    have sa := Env.shA r1 ht
    unfold mkTup at e
    split at e
    · rename_i hl
      cases e
      refine ⟨by rw [sa.len]; exact hl, fun p hp => k _ _ Z1 [] (s1.trans (Ext.new hp)) (.sh (.tup upd_same (sa.ext (Ext.new hp))))⟩
    · cases e
/-- a written list, frozen at once -/
theorem cLstS {es : List Expr} {pos : Pos} {ts : List T} {f : LF} (h : PA X es (aP X.K Γ ts f)) (ht : ts.all (· == .sh) = true := by rfl) : PE X (.List es pos) (tP X.K Γ .sh (xL mkLst f)) :=
  (pe_lst h).imp fun σ H Q ⟨δ, Z, F, d, ok, e, k⟩ => by
    obtain ⟨ds, eds, e⟩ := Option.bind_eq_some_iff.mp e
    refine ⟨δ, Z, F, ds, ok, eds, fun vs H1 Z1 g s1 r1 => ?_⟩
    have sa := Env.shA r1 ht
    unfold mkLst at e
    split at e
    · rename_i hl
      cases e
      refine ⟨by rw [sa.len]; exact hl, fun p hp => k _ _ _ [] (s1.trans (Ext.newZ hp)) (.sh (.lst (.inl ⟨.inr rfl, .inl upd_same⟩) (sa.ext (Ext.newZ hp))))⟩
    · cases e
theorem ShA.repA : ∀ {vs : List V} {ds : List D}, ShA K H Z vs ds → RepA K H Z .sh vs ds []
  | _, _, .nil => .nil
  | _, _, .cons h r => RepA.cons (f := []) (.sh h) (ShA.repA r)
theorem RepA.shA : ∀ {vs : List V} {ds : List D} {g : List Addr}, RepA K H Z .sh vs ds g → ShA K H Z vs ds ∧ g = []
  | _, _, _, .nil => ⟨.nil, rfl⟩
  | _, _, _, .cons h r => by
    obtain ⟨h', e⟩ := h.shOf
    obtain ⟨r', e'⟩ := RepA.shA r
    rw [e, e']
    exact ⟨.cons h' r', rfl⟩
/-- a written list of one's own -/
theorem cLst {es : List Expr} {pos : Pos} {ts : List T} {f : LF} (h : PA X es (aP X.K Γ ts f)) (ht : ts.all (· == .sh) = true := by rfl) : PE X (.List es pos) (tC X.K Γ (.ol .sh) (xL mkLst f)) :=
  (pe_lst h).imp fun σ H Q ⟨δ, Z, F, d, ok, e, k⟩ => by
    obtain ⟨ds, eds, e⟩ := Option.bind_eq_some_iff.mp e
    refine ⟨δ, Z, F, ds, ok, eds, fun vs H1 Z1 g s1 r1 => ?_⟩
    have sa := Env.shA r1 ht
    unfold mkLst at e
    split at e
    · rename_i hl
      cases e
      refine ⟨by rw [sa.len]; exact hl, fun p hp => k _ _ Z1 [p] (s1.trans (Ext.new hp)) (.ol upd_same (sa.ext (Ext.new hp)).repA) (by simp) fun a ha => ?_⟩
      have ea : a = p := by simpa using ha
      subst ea
      exact ⟨Same.free s1.same hp, fun hz => (ok.ext s1).zs a hz hp⟩
    · cases e
/-- [] of any kind -/
theorem cNew {t : T} {pos : Pos} : PE X (.List [] pos) (tC X.K Γ (.ol t) (xK (.list []))) :=
  (pe_lst pa_nil).imp fun σ H Q ⟨δ, Z, F, d, ok, e, k⟩ => by
    cases e
    refine ⟨Nat.zero_le _, fun p hp => k _ _ Z [p] (Ext.new hp) (.ol upd_same .nil) (by simp) fun a ha => ?_⟩
    have ea : a = p := by simpa using ha
    subst ea
    exact ⟨hp, fun hz => ok.zs a hz hp⟩
end
end Pv

set_option Elab.async false
set_option linter.all false
set_option maxRecDepth 100000
/-! Pv3: statements, calls, loops, comprehensions, as functions of the slots' data. -/
namespace Pv
open PySem PySem.Spec PyProof.Rows L2
inductive Out where
  | nx (δ : List D) | bk (δ : List D) | ct (δ : List D) | rt (d : D) (δ : List D)
abbrev SF := List D → Option Out
/-- the slots' types at each end -/
structure TyE where
  n : List T
  b : List T
  c : List T
  r : List T
  t : T
/-- the slots that a return hands back hold the very values they held -/
def Fix (r : List T) (σ σ' : L2.St) : Prop := ∀ (i : Nat) (t : T), r[i]? = some t → t ≠ .no → σ'[i]? = σ[i]?
theorem Fix.refl (r : List T) (σ : L2.St) : Fix r σ σ := fun _ _ _ _ => rfl
theorem Fix.trans {r : List T} {σ σ1 σ2 : L2.St} (a : Fix r σ σ1) (b : Fix r σ1 σ2) : Fix r σ σ2 := fun i t h n => (b i t h n).trans (a i t h n)
def Post (K : PySem.W.Frag) (E : TyE) (W : Ends) (σ : L2.St) (H : Hp) (Z : FzT) (F : List Addr) : Out → Prop
  | .nx δ' => ∀ σ' H' Z' F', Stp H Z F H' Z' F' → Ok K E.n σ' δ' H' Z' F' → Fix E.r σ σ' → W.nx σ' H'
  | .bk δ' => ∀ σ' H' Z' F', Stp H Z F H' Z' F' → Ok K E.b σ' δ' H' Z' F' → Fix E.r σ σ' → W.bk σ' H'
  | .ct δ' => ∀ σ' H' Z' F', Stp H Z F H' Z' F' → Ok K E.c σ' δ' H' Z' F' → Fix E.r σ σ' → W.ct σ' H'
  | .rt d δ' => ∀ v σ' H' Z' F' g, Stp H Z F H' Z' (F' ++ g) → Ok K E.r σ' δ' H' Z' F' → Fix E.r σ σ' → Rep K H' Z' E.t v d g → (F' ++ g).Nodup → (∀ a ∈ g, ¬ Z' a) → W.rt v H'
def tS (K : PySem.W.Frag) (Γ : List T) (E : TyE) (f : SF) : TS := fun W σ H => ∃ δ Z F out, Ok K Γ σ δ H Z F ∧ f δ = some out ∧ Post K E W σ H Z F out
section
variable {K : PySem.W.Frag} {X : Cx} {Γ Γ' Γ1 : List T} {H H' H1 : Hp} {Z Z' Z1 : FzT} {F F' F1 : List Addr} {σ σ' σ1 : L2.St} {δ δ' : List D} {E : TyE} {en eb ec er : List T} {et : T} {W W' : Ends}
theorem Post.later {o : Out} (p : Post K E W σ H Z F o) (s : Stp H Z F H1 Z1 F1) (fx : Fix E.r σ σ1) : Post K E W σ1 H1 Z1 F1 o := by
  cases o with
  | nx δ' => exact fun σ' H' Z' F' s' o' f' => p σ' H' Z' F' (s.trans s') o' (fx.trans f')
  | bk δ' => exact fun σ' H' Z' F' s' o' f' => p σ' H' Z' F' (s.trans s') o' (fx.trans f')
  | ct δ' => exact fun σ' H' Z' F' s' o' f' => p σ' H' Z' F' (s.trans s') o' (fx.trans f')
  | rt d δ' => exact fun v σ' H' Z' F' g s' o' f' => p v σ' H' Z' F' g (s.trans s') o' (fx.trans f')
theorem _root_.L2.PS.imp {st : Stmt} {t t' : TS} (h : PS X st t) (i : ∀ W σ H, t' W σ H → t W σ H) : PS X st t' := ⟨fun pins s σ H W I q => h.run pins s σ H W I (i _ _ _ q)⟩
theorem _root_.L2.PSs.imp {st : List Stmt} {t t' : TS} (h : PSs X st t) (i : ∀ W σ H, t' W σ H → t W σ H) : PSs X st t' := ⟨fun pins s σ H W I q => h.run pins s σ H W I (i _ _ _ q)⟩

/-! ### what may be forgotten -/
def wk : List T → List T → Bool
  | [], [] => true
  | t :: ts, u :: us => (u == .no || u == t) && wk ts us
  | _, _ => false
theorem Env.weak : ∀ {Γ Γ' : List T} {σ : L2.St} {δ : List D} {F : List Addr}, wk Γ Γ' = true → Env K H Z Γ σ δ F → ∃ F', Env K H Z Γ' σ δ F' ∧ F'.Sublist F
  | _, [], _, _, _, h, .nil => ⟨[], .nil, .slnil⟩
  | _, u :: us, _, _, _, h, .no (d := d) r => by
    unfold wk at h
    rw [Bool.and_eq_true] at h
    obtain ⟨F', e, s⟩ := Env.weak h.2 r
    have : u = .no := by simpa using h.1
    subst this
    exact ⟨F', .no e, s⟩
  | t :: _, u :: us, _, _, _, h, .cons q r => by
    unfold wk at h
    rw [Bool.and_eq_true] at h
    obtain ⟨F', e, s⟩ := Env.weak h.2 r
    have hu : u = .no ∨ u = t := by simpa using h.1
    rcases hu with rfl | rfl
    · exact ⟨F', .no e, s.trans (List.sublist_append_right _ _)⟩
    · exact ⟨_, .cons q e, (List.Sublist.refl _).append s⟩
  | _, [], _, _, _, h, .no _ => by simp [wk] at h
  | _, [], _, _, _, h, .cons _ _ => by simp [wk] at h
theorem Ok.weak (h : wk Γ Γ' = true) (o : Ok K Γ σ δ H Z F) : ∃ F', Ok K Γ' σ δ H Z F' ∧ F'.Sublist F := by
  obtain ⟨F', e, s⟩ := o.env.weak h
  exact ⟨F', ⟨e, o.nd.sublist s, fun a ha => o.dz a (s.subset ha), o.zs⟩, s⟩
theorem Post.weak {E' : TyE} {o : Out} (hn : wk E'.n E.n = true) (hb : wk E'.b E.b = true) (hc : wk E'.c E.c = true) (hr : E'.r = E.r) (ht : E'.t = E.t) (p : Post K E W σ H Z F o) : Post K E' W σ H Z F o := by
  cases o with
  | nx δ' =>
    intro σ' H' Z' F' s o fx
    obtain ⟨F2, o2, sb⟩ := o.weak hn
    exact p σ' H' Z' F2 (s.sub fun x hx => sb.subset hx) o2 (hr ▸ fx)
  | bk δ' =>
    intro σ' H' Z' F' s o fx
    obtain ⟨F2, o2, sb⟩ := o.weak hb
    exact p σ' H' Z' F2 (s.sub fun x hx => sb.subset hx) o2 (hr ▸ fx)
  | ct δ' =>
    intro σ' H' Z' F' s o fx
    obtain ⟨F2, o2, sb⟩ := o.weak hc
    exact p σ' H' Z' F2 (s.sub fun x hx => sb.subset hx) o2 (hr ▸ fx)
  | rt d δ' =>
    intro v σ' H' Z' F' g s o fx r nd dz
    exact p v σ' H' Z' F' g s (hr ▸ o) (hr ▸ fx) (ht ▸ r) nd dz
theorem zWk {st : List Stmt} {f : SF} {n' b' c' r' : List T} {t' : T} (h : PSs X st (tS X.K Γ ⟨n', b', c', r', t'⟩ f)) (hn : wk n' en = true) (hb : wk b' eb = true) (hc : wk c' ec = true) (hr : r' = er) (ht : t' = et) : PSs X st (tS X.K Γ ⟨en, eb, ec, er, et⟩ f) :=
  h.imp fun W σ H ⟨δ, Z, F, out, ok, e, p⟩ => ⟨δ, Z, F, out, ok, e, p.weak hn hb hc hr ht⟩
theorem zWk1 {st : Stmt} {f : SF} {n' b' c' r' : List T} {t' : T} (h : PS X st (tS X.K Γ ⟨n', b', c', r', t'⟩ f)) (hn : wk n' en = true) (hb : wk b' eb = true) (hc : wk c' ec = true) (hr : r' = er) (ht : t' = et) : PS X st (tS X.K Γ ⟨en, eb, ec, er, et⟩ f) :=
  h.imp fun W σ H ⟨δ, Z, F, out, ok, e, p⟩ => ⟨δ, Z, F, out, ok, e, p.weak hn hb hc hr ht⟩

/-! ### a slot is set -/
theorem Env.set : ∀ {Γ : List T} {σ : L2.St} {δ : List D} {F : List Addr} {i : Nat} {t : T} {v : V} {d : D} {g : List Addr}, Env K H Z Γ σ δ F → i < Γ.length → Rep K H Z t v d g →
    ∃ F1 o F2, F = F1 ++ o ++ F2 ∧ Env K H Z (Γ.set i t) (σ.set i (some v)) (δ.set i d) (F1 ++ g ++ F2)
  | _, _, _, _, _, _, _, _, _, .nil, h, _ => by simp at h
  | _, _, _, _, 0, _, _, _, g, .no (g := G) r, _, q => ⟨[], [], G, by simp, by simpa using Env.cons q r⟩
  | _, _, _, _, 0, _, _, _, g, .cons (f := f) (g := G) _ r, _, q => ⟨[], f, G, by simp, by simpa using Env.cons q r⟩
  | _, _, _, _, i + 1, _, _, _, g, .no r, h, q => by
    obtain ⟨F1, o, F2, rfl, e⟩ := Env.set (i := i) r (by simpa using h) q
    exact ⟨F1, o, F2, rfl, .no e⟩
  | _, _, _, _, i + 1, _, _, _, g, .cons (f := f) q' r, h, q => by
    obtain ⟨F1, o, F2, rfl, e⟩ := Env.set (i := i) r (by simpa using h) q
    exact ⟨f ++ F1, o, F2, by simp [List.append_assoc], by simpa [List.append_assoc] using Env.cons q' e⟩
theorem Ok.set {i : Nat} {t : T} {v : V} {d : D} {g : List Addr} (o : Ok K Γ σ δ H Z F) (hi : i < Γ.length) (r : Rep K H Z t v d g) (nd : (F ++ g).Nodup) (dz : ∀ a ∈ g, ¬ Z a) :
    ∃ F', Ok K (Γ.set i t) (σ.set i (some v)) (δ.set i d) H Z F' ∧ ∀ a ∈ F', a ∈ F ++ g := by
  obtain ⟨F1, od, F2, rfl, e⟩ := o.env.set hi r
  refine ⟨F1 ++ g ++ F2, ⟨e, ?_, fun a ha => ?_, o.zs⟩, fun a ha => ?_⟩
  · have p : List.Perm ((F1 ++ od ++ F2) ++ g) (od ++ (F1 ++ g ++ F2)) := by
      refine List.Perm.trans ?_ (List.perm_append_comm_assoc F1 od (g ++ F2) |>.trans (by simp [List.append_assoc]))
      simp only [List.append_assoc]
      exact (List.perm_append_comm (l₁ := F2) (l₂ := g)).append_left od |>.append_left F1
    exact (List.nodup_append.mp (p.nodup nd)).2.1
  · rcases List.mem_append.mp ha with h | h
    · rcases List.mem_append.mp h with h | h
      · exact o.dz a (by simp [h])
      · exact dz a h
    · exact o.dz a (by simp [h])
  · simp only [List.mem_append] at ha ⊢
    rcases ha with (h | h) | h
    · exact .inl (.inl (.inl h))
    · exact .inr h
    · exact .inl (.inr h)
/-- forgetting a slot -/
def isNo (r : List T) (i : Nat) : Bool := match r[i]? with | some t => t == .no | none => true
theorem Fix.set {r : List T} {i : Nat} {ov : Option V} (h : isNo r i = true) : Fix r σ (σ.set i ov) := fun j t hj n => by
  by_cases e : i = j
  · subst e
    unfold isNo at h
    rw [hj] at h
    exact absurd (by simpa using h) n
  · rw [List.getElem?_set_ne e]

/-! ### small statements -/
def sNil : SF := fun δ => some (.nx δ)
def sSeq (f g : SF) : SF := fun δ => (f δ).bind fun o => match o with | .nx δ' => g δ' | o => some o
def sSet (i : Nat) (f : EF) : SF := fun δ => (f δ).bind fun d => some (.nx (δ.set i d))
def sSetM (i : Nat) (f : EM) : SF := fun δ => (f δ).bind fun p => some (.nx (p.2.set i p.1))
def sDrop (f : EM) : SF := fun δ => (f δ).bind fun p => some (.nx p.2)
def sRet (f : EF) : SF := fun δ => (f δ).bind fun d => some (.rt d δ)
def sRetM (f : EM) : SF := fun δ => (f δ).bind fun p => some (.rt p.1 p.2)
def sRetN : SF := fun δ => some (.rt .none δ)
def sIf (c : BF) (f g : SF) : SF := fun δ => (c δ).bind fun b => if b then f δ else g δ
def sIfM (c : BM) (f g : SF) : SF := fun δ => (c δ).bind fun p => if p.1 then f p.2 else g p.2
def sBk : SF := fun δ => some (.bk δ)
def sCt : SF := fun δ => some (.ct δ)
def sNo : SF := fun _ => none
theorem zNil : PSs X [] (tS X.K Γ ⟨Γ, eb, ec, er, et⟩ sNil) := pss_nil.imp fun W σ H ⟨δ, Z, F, out, ok, e, p⟩ => by
  cases e
  exact p σ H Z F .refl ok (.refl _ _)
theorem zCons {st : Stmt} {rest : List Stmt} {f g : SF} (h1 : PS X st (tS X.K Γ ⟨Γ1, eb, ec, er, et⟩ f)) (h2 : PSs X rest (tS X.K Γ1 ⟨en, eb, ec, er, et⟩ g)) : PSs X (st :: rest) (tS X.K Γ ⟨en, eb, ec, er, et⟩ (sSeq f g)) := (pss_cons h1 h2).imp fun W σ H ⟨δ, Z, F, out, ok, e, p⟩ => by
  obtain ⟨o1, e1, e2⟩ := Option.bind_eq_some_iff.mp e
  refine ⟨δ, Z, F, o1, ok, e1, ?_⟩
  cases o1 with
  | nx δ1 => exact fun σ' H' Z' F' s o fx => ⟨δ1, Z', F', out, o, e2, p.later s fx⟩
  | bk δ1 => cases e2; exact p
  | ct δ1 => cases e2; exact p
  | rt d δ1 => cases e2; exact p
theorem zOne {st : Stmt} {f : SF} (h1 : PS X st (tS X.K Γ ⟨en, eb, ec, er, et⟩ f)) : PSs X [st] (tS X.K Γ ⟨en, eb, ec, er, et⟩ f) := pss_one h1
theorem zPass {pos : Pos} : PS X (.Pass pos) (tS X.K Γ ⟨Γ, eb, ec, er, et⟩ sNil) := ps_pass.imp fun W σ H ⟨δ, Z, F, out, ok, e, p⟩ => by cases e; exact p σ H Z F .refl ok (.refl _ _)
theorem zNever {st : Stmt} : PS X st (tS X.K Γ ⟨en, eb, ec, er, et⟩ sNo) := ps_never.imp fun W σ H ⟨δ, Z, F, out, ok, e, p⟩ => nomatch e
theorem zBk {pos : Pos} : PS X (.Break pos) (tS X.K Γ ⟨en, Γ, ec, er, et⟩ sBk) := ps_break.imp fun W σ H ⟨δ, Z, F, out, ok, e, p⟩ => by cases e; exact p σ H Z F .refl ok (.refl _ _)
theorem zCt {pos : Pos} : PS X (.Continue pos) (tS X.K Γ ⟨en, eb, Γ, er, et⟩ sCt) := ps_continue.imp fun W σ H ⟨δ, Z, F, out, ok, e, p⟩ => by cases e; exact p σ H Z F .refl ok (.refl _ _)
theorem post_set {i : Nat} {t : T} {te : TE} {f : EM} (hi : i < Γ'.length) (hr : isNo er i = true) (hq : ∀ Q, tM K Γ Γ' t f σ H Q → te σ H Q) (h : tS K Γ ⟨Γ'.set i t, eb, ec, er, et⟩ (sSetM i f) W σ H) : tAsg te (gName i) W σ H := by
  obtain ⟨δ, Z, F, out, ok, e, p⟩ := h
  obtain ⟨⟨d, δ'⟩, e1, e2⟩ := Option.bind_eq_some_iff.mp e
  cases e2
  refine hq _ ⟨δ, Z, F, d, δ', ok, e1, fun v H' Z' F' g s o r nd dz => ?_⟩
  obtain ⟨F2, o2, sb⟩ := o.set hi r nd dz
  exact p _ H' Z' F2 (s.sub sb) o2 (Fix.set hr)
theorem sSet_eq (i : Nat) (f : EF) : sSet i f = sSetM i (mOf f) := by
  funext δ
  unfold sSet sSetM mOf
  cases f δ <;> rfl
theorem sRet_eq (f : EF) : sRet f = sRetM (mOf f) := by
  funext δ
  unfold sRet sRetM mOf
  cases f δ <;> rfl
theorem zSetM {i : Nat} {x : Str} {e : Expr} {t : T} {f : EM} {pos pos' : Pos} (hN : X.N.Nodup) (hi : X.N[i]? = some x) (hx : Loc X.env.scope x) (he : PE X e (tM X.K Γ Γ' t f)) (hl : i < Γ'.length) (hr : isNo er i = true)
    (hs : swapsWith e (some (.Name x pos')) pos.line X.env = pure false := by rfl) (hf : X.fn x = true ∨ X.env.scope.names.lookup x = some .local := by first | exact .inl rfl | exact .inr rfl | assumption) :
    PS X (.Assign [.Name x pos'] e pos) (tS X.K Γ ⟨Γ'.set i t, eb, ec, er, et⟩ (sSetM i f)) := (ps_set hN hi hx he hs hf).imp fun W σ H h => post_set hl hr (fun Q q => q) h
theorem zSet {i : Nat} {x : Str} {e : Expr} {t : T} {f : EF} {pos pos' : Pos} (hN : X.N.Nodup) (hi : X.N[i]? = some x) (hx : Loc X.env.scope x) (he : PE X e (tC X.K Γ t f)) (hl : i < Γ.length) (hr : isNo er i = true)
    (hs : swapsWith e (some (.Name x pos')) pos.line X.env = pure false := by rfl) (hf : X.fn x = true ∨ X.env.scope.names.lookup x = some .local := by first | exact .inl rfl | exact .inr rfl | assumption) :
    PS X (.Assign [.Name x pos'] e pos) (tS X.K Γ ⟨Γ.set i t, eb, ec, er, et⟩ (sSet i f)) := by rw [sSet_eq]; exact zSetM hN hi hx (mOfC he) hl hr hs hf
theorem zDrop {e : Expr} {t : T} {f : EM} {pos : Pos} (he : PE X e (tM X.K Γ Γ' t f)) (hs : swapsWith e none pos.line X.env = pure false := by rfl) : PS X (.Expr e pos) (tS X.K Γ ⟨Γ', eb, ec, er, et⟩ (sDrop f)) := (ps_expr he hs).imp fun W σ H ⟨δ, Z, F, out, ok, e, p⟩ => by
  obtain ⟨⟨d, δ'⟩, e1, e2⟩ := Option.bind_eq_some_iff.mp e
  cases e2
  exact ⟨δ, Z, F, d, δ', ok, e1, fun v H' Z' F' g s o r nd dz => p _ H' Z' F' (s.sub fun a ha => List.mem_append_left _ ha) o (.refl _ _)⟩
theorem zDoc {x : Str} {j pos pos'} : PS X (.Expr (.Constant (.str x) j pos) pos') (tS X.K Γ ⟨Γ, eb, ec, er, et⟩ sNil) := ps_doc.imp fun W σ H ⟨δ, Z, F, out, ok, e, p⟩ => by cases e; exact p σ H Z F .refl ok (.refl _ _)
theorem zRetM {e : Expr} {f : EM} {pos : Pos} (he : PE X e (tM X.K Γ Γ' et f)) (hw : wk Γ' er = true) : PS X (.Return (some e) pos) (tS X.K Γ ⟨en, eb, ec, er, et⟩ (sRetM f)) := (ps_ret he).imp fun W σ H ⟨δ, Z, F, out, ok, e, p⟩ => by
  obtain ⟨⟨d, δ'⟩, e1, e2⟩ := Option.bind_eq_some_iff.mp e
  cases e2
  refine ⟨δ, Z, F, d, δ', ok, e1, fun v H' Z' F' g s o r nd dz => ?_⟩
  obtain ⟨F2, o2, sb⟩ := o.weak hw
  exact p v σ H' Z' F2 g (s.sub fun a ha => by rcases List.mem_append.mp ha with h | h; exact List.mem_append_left _ (sb.subset h); exact List.mem_append_right _ h) o2 (.refl _ _) r (nd.sublist (sb.append (.refl _))) dz
theorem zRet {e : Expr} {f : EF} {pos : Pos} (he : PE X e (tC X.K Γ et f)) (hw : wk Γ er = true) : PS X (.Return (some e) pos) (tS X.K Γ ⟨en, eb, ec, er, et⟩ (sRet f)) := by rw [sRet_eq]; exact zRetM (mOfC he) hw
theorem zIfM {c : Expr} {a b : List Stmt} {pos : Pos} {k : BM} {f g : SF} (hc : PT X c (bM X.K Γ Γ' k)) (ha : PSs X a (tS X.K Γ' ⟨en, eb, ec, er, et⟩ f)) (hb : PSs X b (tS X.K Γ' ⟨en, eb, ec, er, et⟩ g)) : PS X (.If c a b pos) (tS X.K Γ ⟨en, eb, ec, er, et⟩ (sIfM k f g)) := (ps_if hc ha hb).imp fun W σ H ⟨δ, Z, F, out, ok, e, p⟩ => by
  obtain ⟨⟨b, δ'⟩, e1, e2⟩ := Option.bind_eq_some_iff.mp e
  refine ⟨δ, Z, F, b, δ', ok, e1, fun H' Z' F' s o => ?_⟩
  cases b with
  | true => exact ⟨δ', Z', F', out, o, e2, p.later s (.refl _ _)⟩
  | false => exact ⟨δ', Z', F', out, o, e2, p.later s (.refl _ _)⟩
theorem zIf {c : Expr} {a b : List Stmt} {pos : Pos} {k : BF} {f g : SF} (hc : PT X c (bP X.K Γ k)) (ha : PSs X a (tS X.K Γ ⟨en, eb, ec, er, et⟩ f)) (hb : PSs X b (tS X.K Γ ⟨en, eb, ec, er, et⟩ g)) : PS X (.If c a b pos) (tS X.K Γ ⟨en, eb, ec, er, et⟩ (sIf k f g)) := (ps_if hc ha hb).imp fun W σ H ⟨δ, Z, F, out, ok, e, p⟩ => by
  obtain ⟨b, e1, e2⟩ := Option.bind_eq_some_iff.mp e
  refine ⟨δ, Z, F, b, ok, e1, fun H' Z' s => ?_⟩
  cases b with
  | true => exact ⟨δ, Z', F, out, ok.ext s, e2, p.later s.stp (.refl _ _)⟩
  | false => exact ⟨δ, Z', F, out, ok.ext s, e2, p.later s.stp (.refl _ _)⟩

end
end Pv

set_option Elab.async false
set_option linter.all false
set_option maxRecDepth 100000
/-! Pv4: defs and their calls; lists handed over, frozen, changed. -/
namespace Pv
open PySem PySem.Spec PyProof.Rows L2
/-- a def by its data: the parameters' types, what of them comes back, the answer's type, the answer and the parameters behind it -/
structure FS where
  ps : List T
  io : List T
  t : T
  f : List D → Option (D × List D)
def spF (K : PySem.W.Frag) (S : FS) : Sp := fun vs H Q _ => ∃ ds Z F d ds', Ok K S.ps (vs.map some) ds H Z F ∧ S.f ds = some (d, ds') ∧
  ∀ v H' Z' F' g, Stp H Z F H' Z' (F' ++ g) → Ok K S.io (vs.map some) ds' H' Z' F' → Rep K H' Z' S.t v d g → (F' ++ g).Nodup → (∀ a ∈ g, ¬ Z' a) → Q v H'
def outF (n : Nat) (fo : Bool) : Out → Option (D × List D)
  | .rt d δ => some (d, δ.take n)
  | .nx δ => if fo then some (.none, δ.take n) else none
  | _ => none
/-- a body as a function: nl further slots; fo: it may fall off its end -/
def fnF (nl : Nat) (fo : Bool) (g : SF) : List D → Option (D × List D) := fun ds => (g (ds ++ List.replicate nl .none)).bind (outF ds.length fo)
section
variable {K : PySem.W.Frag} {X : Cx} {Γ Γ' Γ1 : List T} {H H' H1 : Hp} {Z Z' Z1 : FzT} {F F' F1 : List Addr} {σ σ' σ1 : L2.St} {δ δ' : List D} {E : TyE} {en eb ec er : List T} {et : T} {W W' : Ends}
theorem Env.pad : ∀ {Γ : List T} {σ : L2.St} {δ : List D} {F : List Addr} (n : Nat), Env K H Z Γ σ δ F → Env K H Z (Γ ++ List.replicate n .no) (σ ++ List.replicate n none) (δ ++ List.replicate n .none) F
  | _, _, _, _, n, .no r => .no (Env.pad n r)
  | _, _, _, _, n, .cons q r => .cons q (Env.pad n r)
  | _, _, _, _, 0, .nil => .nil
  | _, _, _, _, n + 1, .nil => by
    have h : Env K H Z _ _ _ _ := Env.pad n .nil
    exact .no h
theorem Env.nos : ∀ {L : List T} {σ : L2.St} {δ : List D} {F : List Addr}, Env K H Z L σ δ F → L.all (· == .no) = true → F = []
  | _, _, _, _, .nil, _ => rfl
  | _, _, _, _, .no r, h => Env.nos r (by rw [List.all_cons, Bool.and_eq_true] at h; exact h.2)
  | t :: _, _, _, _, .cons q r, h => by
    rw [List.all_cons, Bool.and_eq_true] at h
    have e : t = T.no := by simpa using h.1
    subst e
    cases q
    rw [Env.nos r h.2]
    rfl
theorem Env.back : ∀ {io L : List T} {vs : List V} {σ : L2.St} {δ : List D} {F : List Addr}, Env K H Z (io ++ L) σ δ F → L.all (· == .no) = true → vs.length = io.length →
    (∀ (i : Nat) (t : T), io[i]? = some t → t ≠ .no → σ[i]? = (vs.map some)[i]?) → Env K H Z io (vs.map some) (δ.take io.length) F
  | [], L, vs, σ, δ, F, h, hl, e, _ => by
    have : vs = [] := List.eq_nil_of_length_eq_zero e
    subst this
    rw [Env.nos h hl]
    exact .nil
  | t :: io, L, [], _, _, _, _, _, e, _ => by simp at e
  | t :: io, L, v :: vs, _, _, _, h, hl, e, q => by
    have e' : vs.length = io.length := by simpa using e
    cases h with
    | no r =>
      have := Env.back r hl e' fun i t hi n => by simpa using q (i + 1) t (by simpa using hi) n
      exact .no this
    | @cons _ _ v' _ _ _ _ _ p r =>
      have ih := Env.back r hl e' fun i t hi n => by simpa using q (i + 1) t (by simpa using hi) n
      by_cases hn : t = .no
      · subst hn
        cases p
        exact .no ih
      · have e0 := q 0 t rfl hn
        have e1 : v' = v := by simpa using e0
        subst e1
        exact .cons p ih
theorem all_rep (n : Nat) : (List.replicate n T.no).all (· == .no) = true := by simp
/-- THE RULE for a def that raises nothing -/
theorem fn_val {P : Program} {w : World} {mg : Str → Option Value} {base : Heap} {x qual : Str} {st : Stmt} {f : Addr} {fd : FuncData} {N ps : List Str} {k nl : Nat} {fo : Bool} {S : FS} {g : SF}
    (Fu : Fun K x qual st f fd) (Sc : FnScope N ps (defScope st)) (hp : S.ps.length = ps.length) (hio : S.io.length = ps.length) (hN : N.length = ps.length + nl) (hf : S.f = fnF nl fo g) (hfo : fo = true → S.t = .sh)
    (body : ∀ (cdv : Value) (A : Around) (outer : List PySem.Env) (s : Shared) (H : Hp) (E : XK), Room k (A.deeper (envOfC qual (defScope st) s.heap.objs.size f cdv)) →
      PSs (cxOf CX0 P w K mg base N qual (defScope st) f cdv A outer s H E).nox (defBody st) (tS K (S.ps ++ List.replicate nl .no) ⟨S.io ++ List.replicate nl .no, [], [], S.io ++ List.replicate nl .no, S.t⟩ g)) :
    FnOk P w K mg base CX0 (k + 1) f fd ps (spF K S) := by
  refine Fu.ok Sc (fun vs H Q E h => ?_) (fun cdv A outer s H vs Q E hr h => ?_)
  · obtain ⟨ds, Z, F, d, ds', ok, _⟩ := h
    have := ok.env.len.1
    rw [List.length_map] at this
    omega
  · obtain ⟨ds, Z, F, d, ds', ok, e, k⟩ := h
    have lv : vs.length = ps.length := by
      have := ok.env.len.1
      rw [List.length_map] at this
      omega
    have ld : ds.length = ps.length := by
      have := ok.env.len.2
      omega
    rw [hf] at e
    obtain ⟨out, e1, e2⟩ := Option.bind_eq_some_iff.mp e
    refine ⟨_, body cdv A outer s H E hr, ds ++ List.replicate nl .none, Z, F, out, ⟨?_, ok.nd, ok.dz, ok.zs⟩, e1, ?_⟩
    · have hs : L2.start N vs = vs.map some ++ List.replicate nl none := by
        unfold L2.start
        rw [show N.length - vs.length = nl by omega]
      rw [hs]
      exact ok.env.pad nl
    · have back : ∀ {σ' : L2.St} {δ' : List D} {H' : Hp} {Z' : FzT} {F' : List Addr}, Ok K (S.io ++ List.replicate nl .no) σ' δ' H' Z' F' → Fix (S.io ++ List.replicate nl .no) (L2.start N vs) σ' → Ok K S.io (vs.map some) (δ'.take ds.length) H' Z' F' := fun o fx => by
        rw [show ds.length = S.io.length by omega]
        refine ⟨o.env.back (all_rep nl) (by omega) fun i t hi n => ?_, o.nd, o.dz, o.zs⟩
        have hl : i < S.io.length := (List.getElem?_eq_some_iff.mp hi).1
        rw [fx i t (by rw [List.getElem?_append_left hl]; exact hi) n]
        unfold L2.start
        rw [List.getElem?_append_left (by rw [List.length_map]; omega)]
      cases out with
      | nx δ' =>
        unfold outF at e2
        cases hq : fo with
        | false => rw [hq] at e2; cases e2
        | true =>
          rw [hq] at e2
          cases e2
          intro σ' H' Z' F' s' o fx
          refine k .non H' Z' F' [] (by simpa using s') (back o fx) ?_ (by simpa using o.nd) (fun _ q => nomatch q)
          rw [hfo hq]
          exact .sh .non
      | rt d' δ' =>
        cases e2
        intro v σ' H' Z' F' g' s' o fx r nd dz
        exact k v H' Z' F' g' s' (back o fx) r nd dz
      | bk δ' => cases e2
      | ct δ' => cases e2

/-! ### a slot's value is taken out -/
theorem Env.take : ∀ {Γ : List T} {σ : L2.St} {δ : List D} {F : List Addr} {i : Nat} {t : T} {d : D}, Env K H Z Γ σ δ F → Γ[i]? = some t → t ≠ .no → δ[i]? = some d →
    ∃ v F1 g F2, σ[i]? = some (some v) ∧ Rep K H Z t v d g ∧ F = F1 ++ g ++ F2 ∧ Env K H Z (Γ.set i .no) σ δ (F1 ++ F2)
  | _, _, _, _, i, _, _, .nil, h, _, _ => by simp at h
  | _, _, _, _, 0, t, _, .no r, h, n, _ => by simp at h; exact absurd h.symm n
  | _, _, _, _, i + 1, t, d, .no r, h, n, e => by
    obtain ⟨v, F1, g, F2, h1, h2, h3, h4⟩ := Env.take (i := i) r (by simpa using h) n (by simpa using e)
    exact ⟨v, F1, g, F2, by simpa using h1, h2, h3, .no h4⟩
  | _, _, _, _, 0, t, d, .cons (f := f) (g := G) q r, h, n, e => by
    simp at h e; subst h; subst e
    exact ⟨_, [], f, G, rfl, q, by simp, by simpa using Env.no r⟩
  | _, _, _, _, i + 1, t, d, .cons (f := f) q r, h, n, e => by
    obtain ⟨v, F1, g, F2, h1, h2, h3, h4⟩ := Env.take (i := i) r (by simpa using h) n (by simpa using e)
    exact ⟨v, f ++ F1, g, F2, by simpa using h1, h2, by rw [h3]; simp [List.append_assoc], by simpa [List.append_assoc] using Env.cons q h4⟩
theorem nodup_mid {F1 g F2 : List Addr} (h : (F1 ++ g ++ F2).Nodup) : (F1 ++ F2 ++ g).Nodup := by
  refine List.Perm.nodup ?_ h
  rw [List.append_assoc, List.append_assoc]
  exact (List.perm_append_comm (l₁ := g) (l₂ := F2)).append_left F1
def xMov (i : Nat) : EM := fun δ => (δ[i]?).map (·, δ)
theorem Ok.take {i : Nat} {t : T} {d : D} (o : Ok K Γ σ δ H Z F) (h : Γ[i]? = some t) (n : t ≠ .no) (e : δ[i]? = some d) :
    ∃ v F' g, σ[i]? = some (some v) ∧ Rep K H Z t v d g ∧ Ok K (Γ.set i .no) σ δ H Z F' ∧ (F' ++ g).Nodup ∧ (∀ a ∈ F' ++ g, a ∈ F) := by
  obtain ⟨v, F1, g, F2, h1, h2, rfl, h4⟩ := o.env.take h n e
  have nd := nodup_mid o.nd
  have sub : ∀ a ∈ F1 ++ F2 ++ g, a ∈ F1 ++ g ++ F2 := fun a ha => by
    simp only [List.mem_append] at ha ⊢
    rcases ha with (h | h) | h
    · exact .inl (.inl h)
    · exact .inr h
    · exact .inl (.inr h)
  exact ⟨v, F1 ++ F2, g, h1, h2, ⟨h4, (List.nodup_append.mp nd).1, fun a ha => o.dz a (sub a (List.mem_append_left _ ha)), o.zs⟩, nd, sub⟩
theorem mMov (i : Nat) {x : Str} {pos : Pos} {t : T} (ht : Γ[i]? = some t) (hn : t ≠ .no) (h : PE X (.Name x pos) (tVar i)) : PE X (.Name x pos) (tM X.K Γ (Γ.set i .no) t (xMov i)) := h.imp fun σ H Q ⟨δ, Z, F, d, δ', o, e, k⟩ => by
  unfold xMov at e
  cases q : δ[i]? with
  | none => rw [q] at e; cases e
  | some d' =>
    rw [q] at e; cases e
    obtain ⟨v, F', g, h1, h2, h3, h4, h5⟩ := o.take ht hn q
    exact ⟨v, h1, k v H Z F' g (Stp.refl.sub h5) h3 h2 h4 fun a ha => o.dz a (h5 a (List.mem_append_right _ ha))⟩

/-! ### frozen -/
def T.full : T → Bool
  | .no => false
  | .sh => true
  | .ol t => t.full
  | .pr s t => s.full && t.full
  | .dk _ => false
  | .dt _ => false
  | .ex _ _ => false
mutual
theorem Sh.zmono (m : ∀ a, Z a → Z' a) : ∀ {v : V} {d : D}, Sh K H Z v d → Sh K H Z' v d
  | _, _, .non => .non
  | _, _, .bl b => .bl b
  | _, _, .int i => .int i
  | _, _, .str x => .str x
  | _, _, .lst z r => .lst (z.mono m) (ShA.zmono m r)
  | _, _, .tup h r => .tup h (ShA.zmono m r)
  | _, _, .dk z h e r => .dk (m _ z) h e (ShA.zmono m r)
  | _, _, .dt z h e r => .dt (m _ z) h e (ShA.zmono m r)
theorem ShA.zmono (m : ∀ a, Z a → Z' a) : ∀ {vs : List V} {ds : List D}, ShA K H Z vs ds → ShA K H Z' vs ds
  | _, _, .nil => .nil
  | _, _, .cons h r => .cons (Sh.zmono m h) (ShA.zmono m r)
end
mutual
theorem Rep.zmono (m : ∀ a, Z a → Z' a) : ∀ {t : T} {v : V} {d : D} {f : List Addr}, Rep K H Z t v d f → Rep K H Z' t v d f
  | _, _, _, _, .no => .no
  | _, _, _, _, .sh h => .sh (h.zmono m)
  | _, _, _, _, .ol h r => .ol h (RepA.zmono m r)
  | _, _, _, _, .pr h r1 r2 => .pr h (Rep.zmono m r1) (Rep.zmono m r2)
  | _, _, _, _, .dk h e r => .dk h e (RepA.zmono m r)
  | _, _, _, _, .dt h e r => .dt h e (RepA.zmono m r)
  | _, _, _, _, .ex z h k => .ex (m _ z) h fun p hp => let ⟨v, h1, h2⟩ := k p hp; ⟨v, h1, h2.zmono m⟩
theorem RepA.zmono (m : ∀ a, Z a → Z' a) : ∀ {t : T} {vs : List V} {ds : List D} {f : List Addr}, RepA K H Z t vs ds f → RepA K H Z' t vs ds f
  | _, _, _, _, .nil => .nil
  | _, _, _, _, .cons h r => .cons (Rep.zmono m h) (RepA.zmono m r)
end
/-- what is frozen besides -/
def zu (Z : FzT) (g : List Addr) : FzT := fun a => Z a ∨ a ∈ g
mutual
theorem Rep.frz (m : ∀ a, Z a → Z' a) : ∀ {t : T} {v : V} {d : D} {f : List Addr}, Rep K H Z t v d f → t.full = true → (∀ a ∈ f, Z' a) → Sh K H Z' v d
  | _, _, _, _, .no, h, _ => by cases h
  | _, _, _, _, .sh h, _, _ => h.zmono m
  | _, _, _, _, .ol h r, hf, q => .lst (.inl ⟨q _ List.mem_cons_self, .inl h⟩) (RepA.frz m r hf fun a ha => q a (List.mem_cons_of_mem _ ha))
  | _, _, _, _, .dk _ _ _, hf, _ => by cases hf
  | _, _, _, _, .dt _ _ _, hf, _ => by cases hf
  | _, _, _, _, .ex _ _ _, hf, _ => by cases hf
  | _, _, _, _, .pr h r1 r2, hf, q => by
    have hf' := (Bool.and_eq_true _ _).mp hf
    exact .tup h (.cons (Rep.frz m r1 hf'.1 fun a ha => q a (List.mem_append_left _ ha)) (.cons (Rep.frz m r2 hf'.2 fun a ha => q a (List.mem_append_right _ ha)) .nil))
theorem RepA.frz (m : ∀ a, Z a → Z' a) : ∀ {t : T} {v : List V} {d : List D} {f : List Addr}, RepA K H Z t v d f → t.full = true → (∀ a ∈ f, Z' a) → ShA K H Z' v d
  | _, _, _, _, .nil, _, _ => .nil
  | _, _, _, _, .cons h r, hf, q => .cons (Rep.frz m h hf fun a ha => q a (List.mem_append_left _ ha)) (RepA.frz m r hf fun a ha => q a (List.mem_append_right _ ha))
end
/-- g is frozen: it leaves what is owned -/
theorem Stp.freeze {g : List Addr} (s : Stp H Z F H' Z' (F' ++ g)) (m : Mu H' g) : Stp H Z F H' (zu Z' g) F' :=
  ⟨s.keep, fun a h => .inl (s.mono a h), fun a h => s.own a (List.mem_append_left _ h), fun a h => Or.elim h (s.frz a) fun h => .inr (s.own a (List.mem_append_right _ h)), s.live, fun a h => Or.elim h (s.zs a) fun h => .inr (m.some h)⟩
theorem Env.zmono (m : ∀ a, Z a → Z' a) : ∀ {Γ : List T} {σ : L2.St} {δ : List D} {F : List Addr}, Env K H Z Γ σ δ F → Env K H Z' Γ σ δ F
  | _, _, _, _, .nil => .nil
  | _, _, _, _, .no r => .no (r.zmono m)
  | _, _, _, _, .cons q r => .cons (q.zmono m) (r.zmono m)
theorem Ok.freeze {g : List Addr} (o : Ok K Γ σ δ H Z F) (nd : (F ++ g).Nodup) (m : Mu H g) : Ok K Γ σ δ H (zu Z g) F :=
  ⟨o.env.zmono fun _ => .inl, o.nd, fun a ha h => Or.elim h (o.dz a ha) fun h => (List.nodup_append.mp nd).2.2 a ha a h rfl, fun a h => Or.elim h (o.zs a) fun h => m.some h⟩
theorem mFrz {t : T} {f : EM} {e : Expr} (h : PE X e (tM X.K Γ Γ' t f)) (hf : t.full = true := by rfl) : PE X e (tM X.K Γ Γ' .sh f) := h.imp fun σ H Q ⟨δ, Z, F, d, δ', o, e, k⟩ =>
  ⟨δ, Z, F, d, δ', o, e, fun v H' Z' F' g s o' r nd dz => k v H' (zu Z' g) F' [] (by simpa using s.freeze r.mu) (o'.freeze nd r.mu) (.sh (r.frz (fun _ => .inl) hf fun _ => .inr)) (by simpa using o'.nd) (fun _ q => nomatch q)⟩
theorem cFrz {t : T} {f : EF} {e : Expr} (h : PE X e (tC X.K Γ t f)) (hf : t.full = true := by rfl) : PE X e (tP X.K Γ .sh f) := h.imp fun σ H Q ⟨δ, Z, F, d, o, e, k⟩ =>
  ⟨δ, Z, F, d, o, e, fun v H' Z' g s r nd dz => k v H' (zu Z' g) [] ⟨s.keep, fun a h => .inl (s.mono a h), (fun _ q => nomatch q), fun a h => Or.elim h (s.frz a) fun h => .inr (.inr (dz a h).1), s.live, fun a h => Or.elim h (s.zs a) fun h => .inr (r.mu.some h)⟩
    (.sh (r.frz (fun _ => .inl) hf fun _ => .inr))⟩
/-- the slot i is frozen ahead of a block -/
theorem zFrz (i : Nat) {t : T} {sts : List Stmt} {f : SF} (ht : Γ[i]? = some t) (hf : t.full = true) (h : PSs X sts (tS X.K (Γ.set i .sh) ⟨en, eb, ec, er, et⟩ f)) (hl : ∀ δ o, f δ = some o → i < δ.length → True := by intros; trivial) : PSs X sts (tS X.K Γ ⟨en, eb, ec, er, et⟩ f) := h.imp fun W σ H ⟨δ, Z, F, out, ok, e, p⟩ => by
  have hn : t ≠ .no := fun z => by rw [z] at hf; cases hf
  have hi : i < Γ.length := (List.getElem?_eq_some_iff.mp ht).1
  obtain ⟨d, hd⟩ : ∃ d, δ[i]? = some d := ⟨δ[i]'(by rw [ok.env.len.2]; exact hi), by simp [ok.env.len.2, hi]⟩
  obtain ⟨v, F', g, h1, h2, h3, h4, h5⟩ := ok.take ht hn hd
  have s := (Stp.refl (H := H) (Z := Z) (F := F)).sub h5
  have o1 := h3.freeze h4 h2.mu
  have sh : Sh X.K H (zu Z g) v d := h2.frz (fun _ => .inl) hf fun _ => .inr
  obtain ⟨F2, o2, sb⟩ := o1.set (i := i) (t := .sh) (v := v) (d := d) (g := []) (by simpa using hi) (.sh sh) (by simpa using o1.nd) (fun _ q => nomatch q)
  have e1 : σ.set i (some v) = σ := by
    refine List.ext_getElem? fun j => ?_
    by_cases hj : i = j
    · subst hj
      rw [List.getElem?_set_self (by rw [ok.env.len.1]; exact hi), h1]
    · rw [List.getElem?_set_ne hj]
  have e2 : δ.set i d = δ := by
    refine List.ext_getElem? fun j => ?_
    by_cases hj : i = j
    · subst hj
      rw [List.getElem?_set_self (by rw [ok.env.len.2]; exact hi), hd]
    · rw [List.getElem?_set_ne hj]
  rw [e1, e2, List.set_set] at o2
  exact ⟨δ, _, F2, out, o2, e, p.later ((s.freeze h2.mu).sub fun a ha => by simpa using sb a ha) (.refl _ _)⟩
end
end Pv

set_option Elab.async false
set_option linter.all false
set_option maxRecDepth 100000
/-! Pv5: calls of the text's own defs; methods that change a list. -/
namespace Pv
open PySem PySem.Spec PyProof.Rows L2
def xCall (f : List D → Option (D × List D)) (a : LF) : EF := fun δ => (a δ).bind fun ds => (f ds).map (·.1)
def giveT : List (Option Nat) → List T → List T → List T
  | some i :: gb, t :: ts, Γ => giveT gb ts (Γ.set i t)
  | none :: gb, _ :: ts, Γ => giveT gb ts Γ
  | _, _, Γ => Γ
def giveD : List (Option Nat) → List D → List D → List D
  | some i :: gb, d :: ds, δ => giveD gb ds (δ.set i d)
  | none :: gb, _ :: ds, δ => giveD gb ds δ
  | _, _, δ => δ
def xCallM (gb : List (Option Nat)) (f : List D → Option (D × List D)) (a : LM) : EM := fun δ => (a δ).bind fun p => (f p.1).map fun q => (q.1, giveD gb q.2 p.2)
/-- arguments that come from slots -/
def Gv : List (Option Nat) → List V → L2.St → Prop
  | some i :: gb, v :: vs, σ => σ[i]? = some (some v) ∧ Gv gb vs σ
  | none :: gb, _ :: vs, σ => Gv gb vs σ
  | [], [], _ => True
  | _, _, _ => False
def aM (K : PySem.W.Frag) (Γ Γ' ts : List T) (gb : List (Option Nat)) (f : LM) : TA := fun σ H Q => ∃ δ Z F ds δ', Ok K Γ σ δ H Z F ∧ f δ = some (ds, δ') ∧
  ∀ vs H' Z' F' g, Stp H Z F H' Z' (F' ++ g) → Ok K Γ' σ δ' H' Z' F' → Env K H' Z' ts (vs.map some) ds g → (F' ++ g).Nodup → (∀ a ∈ g, ¬ Z' a) → Gv gb vs σ → Q vs H'
def xmNil : LM := fun δ => some ([], δ)
def xmCons (a : EM) (r : LM) : LM := fun δ => (a δ).bind fun p => (r p.2).bind fun q => some (p.1 :: q.1, q.2)
section
variable {K : PySem.W.Frag} {X : Cx} {Γ Γ' Γ1 Γ2 : List T} {H H' H1 H2 : Hp} {Z Z' Z1 Z2 : FzT} {F F' F1 F2 : List Addr} {σ σ' σ1 : L2.St} {δ δ' : List D} {E : TyE} {en eb ec er : List T} {et : T} {W W' : Ends}
theorem Env.shs : ∀ {ts : List T} {σ : L2.St} {ds : List D} {g : List Addr}, Env K H Z ts σ ds g → ts.all (· == .sh) = true → g = []
  | _, _, _, _, .nil, _ => rfl
  | _, _, _, _, .no r, h => by simp at h
  | t :: _, _, _, _, .cons q r, h => by
    rw [List.all_cons, Bool.and_eq_true] at h
    have e : t = .sh := by simpa using h.1
    subst e
    rw [q.shOf.2, Env.shs r h.2]
    rfl
/-- f(e, ..) of a def that takes and gives shared data alone -/
theorem cCall {k : Nat} {f : Addr} {fd : FuncData} {ps : List Str} {S : FS} {x : Str} {p pos : Pos} {e : Expr} {es : List Expr} {fa : LF} (Fn : FnOk X.prog X.w X.K X.mg X.base CX0 k f fd ps (spF X.K S)) (hr : Room k X.A) (hg : Gl X x) (hm : X.mg x = some (.ref f)) (hk : PySem.W.keepIn X.K (.ref f) = true)
    (hb : Binds X.K fd ps []) (ha : PA X (e :: es) (aP X.K Γ S.ps fa)) (h1 : S.ps.all (· == .sh) = true) (h2 : S.io.all (· == .no) = true) (hdb : (x == ("__debug__" : Str)) = false := by decide)
    (he : starEach (e :: es) X.env = (false, eval e X.env) :: starEach es X.env := by rfl) (hpl : (backTo pos (starEach es X.env)).any (·.1) = false := by rfl) :
    PE X (.Call (.Name x p) (e :: es) [] pos) (tC X.K Γ S.t (xCall S.f fa)) := (pe_call Fn hr hg hm hk hb .nil pass0 ha hdb he hpl).imp fun σ H Q ⟨δ, Z, F, d, ok, e, k⟩ => by
  obtain ⟨ds, e1, e2⟩ := Option.bind_eq_some_iff.mp e
  obtain ⟨⟨d', ds'⟩, e3, e4⟩ := Option.map_eq_some_iff.mp e2
  cases e4
  refine ⟨δ, Z, F, ds, ok, e1, fun vs H1 Z1 g s1 r1 => ?_⟩
  have eg := r1.shs h1
  subst eg
  refine ⟨ds, Z1, [], d', ds', ⟨by rw [List.append_nil]; exact r1, .nil, (fun _ q => nomatch q), (ok.ext s1).zs⟩, e3, fun v H' Z' F' g' s' o r nd dz => ?_⟩
  have eF := o.env.nos h2
  subst eF
  refine k v H' Z' g' (s1.trans (s'.sub fun a q => nomatch q)) r (by simpa using nd) fun a ha => ⟨?_, dz a ha⟩
  rcases s'.own a ha with z | z
  · cases z
  · exact Same.free s1.same z

/-! ### frames of steps -/
theorem Stp.frame {g : List Addr} (s : Stp H Z F H' Z' F') : Stp H Z (F ++ g) H' Z' (F' ++ g) :=
  ⟨fun a o h n => s.keep a o h fun z => n (List.mem_append_left _ z), s.mono, fun a h => (List.mem_append.mp h).elim (fun z => (s.own a z).imp (List.mem_append_left _) id) fun z => .inl (List.mem_append_right _ z),
    fun a h => (s.frz a h).imp id fun z => z.imp (List.mem_append_left _) id, s.live, s.zs⟩
theorem Stp.dzs {g : List Addr} (s : Stp H Z F H' Z' F') (m : Mu H g) (dz : ∀ a ∈ g, ¬ Z a) (nf : ∀ a ∈ g, a ∉ F) : ∀ a ∈ g, ¬ Z' a := fun a ha h => by
  rcases s.frz a h with z | z | z
  · exact dz a ha z
  · exact nf a ha z
  · exact m.some ha z
theorem Stp.apart {g : List Addr} (s : Stp H Z F H' Z' F') (m : Mu H g) (nf : ∀ a ∈ g, a ∉ F) : ∀ a ∈ g, a ∉ F' := fun a ha h => by
  rcases s.own a h with z | z
  · exact nf a ha z
  · exact m.some ha z
theorem nd_apart {A B : List Addr} (h : (A ++ B).Nodup) : ∀ a ∈ B, a ∉ A := fun a ha hb => (List.nodup_append.mp h).2.2 a hb a ha rfl
theorem nd_of {A B : List Addr} (h1 : A.Nodup) (h2 : B.Nodup) (h : ∀ a ∈ B, a ∉ A) : (A ++ B).Nodup := nodup_app h1 h2 h
theorem aMNil : PA X [] (aM X.K Γ Γ [] [] xmNil) := pa_nil.imp fun σ H Q ⟨δ, Z, F, d, δ', ok, e, k⟩ => by
  cases e
  exact k [] H Z F [] (by simpa using Stp.refl) ok .nil (by simpa using ok.nd) (fun _ q => nomatch q) trivial
theorem aM_step {v : V} {t : T} {ts : List T} {d : D} {ds : List D} {vs : List V} {g1 g2 : List Addr} (s1 : Stp H Z F H1 Z1 (F1 ++ g1)) (ok1 : Ok K Γ1 σ δ H1 Z1 F1) (r1 : Rep K H1 Z1 t v d g1) (nd1 : (F1 ++ g1).Nodup) (dz1 : ∀ a ∈ g1, ¬ Z1 a)
    (s2 : Stp H1 Z1 F1 H2 Z2 (F2 ++ g2)) (ok2 : Ok K Γ2 σ δ' H2 Z2 F2) (r2 : Env K H2 Z2 ts (vs.map some) ds g2) (nd2 : (F2 ++ g2).Nodup) (dz2 : ∀ a ∈ g2, ¬ Z2 a) :
    Stp H Z F H2 Z2 (F2 ++ (g1 ++ g2)) ∧ Env K H2 Z2 (t :: ts) ((v :: vs).map some) (d :: ds) (g1 ++ g2) ∧ (F2 ++ (g1 ++ g2)).Nodup ∧ ∀ a ∈ g1 ++ g2, ¬ Z2 a := by
  have ap := s2.apart r1.mu (nd_apart nd1)
  refine ⟨s1.trans (s2.frame.sub fun a ha => by simp only [List.mem_append] at ha ⊢; rcases ha with h | h | h <;> simp [h]), .cons (r1.step s2 ok1.mu ok1.dz (nd_apart nd1)) r2, ?_, fun a ha => (List.mem_append.mp ha).elim (s2.dzs r1.mu dz1 (nd_apart nd1) a) (dz2 a)⟩
  have nd : ((F2 ++ g2) ++ g1).Nodup := nd_of nd2 (List.nodup_append.mp nd1).2.1 ap
  refine List.Perm.nodup ?_ nd
  rw [List.append_assoc]
  exact (List.perm_append_comm).append_left F2
theorem aMCons {t : T} {ts : List T} {gb : List (Option Nat)} {f : EM} {r : LM} {e : Expr} {es : List Expr} (ha : PE X e (tM X.K Γ Γ1 t f)) (hr : PA X es (aM X.K Γ1 Γ2 ts gb r)) (hs : starEach (e :: es) X.env = (false, eval e X.env) :: starEach es X.env := by rfl) :
    PA X (e :: es) (aM X.K Γ Γ2 (t :: ts) (none :: gb) (xmCons f r)) := (pa_cons ha hr hs).imp fun σ H Q ⟨δ, Z, F, ds, δ', ok, e, k⟩ => by
  obtain ⟨⟨d, δ1⟩, e1, e2⟩ := Option.bind_eq_some_iff.mp e
  obtain ⟨⟨ds', δ2⟩, e3, e4⟩ := Option.bind_eq_some_iff.mp e2
  cases e4
  refine ⟨δ, Z, F, d, δ1, ok, e1, fun v H1 Z1 F1 g1 s1 ok1 r1 nd1 dz1 => ⟨δ1, Z1, F1, ds', δ2, ok1, e3, fun vs H2 Z2 F2 g2 s2 ok2 r2 nd2 dz2 gv => ?_⟩⟩
  obtain ⟨a, b, c, d⟩ := aM_step s1 ok1 r1 nd1 dz1 s2 ok2 r2 nd2 dz2
  exact k (v :: vs) H2 Z2 F2 _ a ok2 b c d gv
/-- an argument that is a slot's own list: it comes back -/
theorem aMIo (i : Nat) {x : Str} {pos : Pos} {t : T} {ts : List T} {gb : List (Option Nat)} {r : LM} {es : List Expr} (ht : Γ[i]? = some t) (hn : t ≠ .no) (h : PE X (.Name x pos) (tVar i)) (hr : PA X es (aM X.K (Γ.set i .no) Γ2 ts gb r))
    (hs : starEach (.Name x pos :: es) X.env = (false, eval (.Name x pos) X.env) :: starEach es X.env := by rfl) :
    PA X (.Name x pos :: es) (aM X.K Γ Γ2 (t :: ts) (some i :: gb) (xmCons (xMov i) r)) := (pa_cons h hr hs).imp fun σ H Q ⟨δ, Z, F, ds, δ', ok, e, k⟩ => by
  obtain ⟨⟨d, δ1⟩, e1, e2⟩ := Option.bind_eq_some_iff.mp e
  obtain ⟨⟨ds', δ2⟩, e3, e4⟩ := Option.bind_eq_some_iff.mp e2
  cases e4
  unfold xMov at e1
  cases q : δ[i]? with
  | none => rw [q] at e1; cases e1
  | some d' =>
    rw [q] at e1; cases e1
    obtain ⟨v, F1, g1, h1, h2, h3, h4, h5⟩ := ok.take ht hn q
    refine ⟨v, h1, δ, Z, F1, ds', δ2, h3, e3, fun vs H2 Z2 F2 g2 s2 ok2 r2 nd2 dz2 gv => ?_⟩
    obtain ⟨a, b, c, d⟩ := aM_step (Stp.refl.sub h5) h3 h2 h4 (fun a ha => ok.dz a (h5 a (List.mem_append_right _ ha))) s2 ok2 r2 nd2 dz2
    exact k (v :: vs) H2 Z2 F2 _ a ok2 b c d ⟨h1, gv⟩

theorem set_self {α : Type} {l : List α} {i : Nat} {a : α} (h : l[i]? = some a) : l.set i a = l := by
  refine List.ext_getElem? fun j => ?_
  by_cases hj : i = j
  · subst hj
    rw [List.getElem?_set_self (List.getElem?_eq_some_iff.mp h).1, h]
  · rw [List.getElem?_set_ne hj]
theorem give : ∀ {gb : List (Option Nat)} {io : List T} {vs : List V} {ds : List D} {Γ : List T} {δ : List D} {F G : List Addr}, Ok K Γ σ δ H Z F → Env K H Z io (vs.map some) ds G → (F ++ G).Nodup → (∀ a ∈ G, ¬ Z a) → Gv gb vs σ →
    ∃ F', Ok K (giveT gb io Γ) σ (giveD gb ds δ) H Z F' ∧ ∀ a ∈ F', a ∈ F ++ G
  | [], io, vs, ds, Γ, δ, F, G, ok, _, _, _, _ => ⟨F, by simpa [giveT, giveD] using ok, fun a h => List.mem_append_left _ h⟩
  | some i :: gb, [], v :: vs, ds, Γ, δ, F, G, ok, r, _, _, _ => by cases r
  | none :: gb, [], v :: vs, ds, Γ, δ, F, G, ok, r, _, _, _ => by cases r
  | some i :: gb, t :: io, [], ds, Γ, δ, F, G, ok, r, _, _, gv => by cases gv
  | none :: gb, t :: io, [], ds, Γ, δ, F, G, ok, r, _, _, gv => by cases gv
  | some i :: gb, [], [], ds, Γ, δ, F, G, ok, r, _, _, gv => by cases gv
  | none :: gb, [], [], ds, Γ, δ, F, G, ok, r, _, _, gv => by cases gv
  | none :: gb, t :: io, v :: vs, d :: ds, Γ, δ, F, G, ok, r, nd, dz, gv => by
    have go : ∀ G', Env K H Z io (vs.map some) ds G' → (∀ a ∈ G', a ∈ G) → G'.Nodup → ∃ F', Ok K (giveT gb io Γ) σ (giveD gb ds δ) H Z F' ∧ ∀ a ∈ F', a ∈ F ++ G := fun G' r' sub nd' => by
      obtain ⟨F', o, s⟩ := give (gb := gb) ok r' (nd_of ok.nd nd' fun a h => nd_apart nd a (sub a h)) (fun a h => dz a (sub a h)) gv
      exact ⟨F', o, fun a h => (List.mem_append.mp (s a h)).elim (List.mem_append_left _) fun z => List.mem_append_right _ (sub a z)⟩
    have ndG := (List.nodup_append.mp nd).2.1
    cases r with
    | no r => exact go _ r (fun _ h => h) ndG
    | cons q r => exact go _ r (fun _ h => List.mem_append_right _ h) (List.nodup_append.mp ndG).2.1
  | some i :: gb, t :: io, v :: vs, d :: ds, Γ, δ, F, G, ok, r, nd, dz, gv => by
    obtain ⟨hv, gv⟩ := gv
    have ndG := (List.nodup_append.mp nd).2.1
    have hi : i < Γ.length := by
      have := (List.getElem?_eq_some_iff.mp hv).1
      rw [ok.env.len.1] at this
      exact this
    have go : ∀ g G', Rep K H Z t v d g → Env K H Z io (vs.map some) ds G' → g ++ G' = G → ∃ F', Ok K (giveT gb io (Γ.set i t)) σ (giveD gb ds (δ.set i d)) H Z F' ∧ ∀ a ∈ F', a ∈ F ++ G := fun g G' q r' eG => by
      subst eG
      have nd' : (F ++ g ++ G').Nodup := by rw [List.append_assoc]; exact nd
      obtain ⟨F1, o1, s1⟩ := ok.set hi q (List.nodup_append.mp nd').1 fun a h => dz a (List.mem_append_left _ h)
      rw [set_self hv] at o1
      obtain ⟨F', o, s⟩ := give (gb := gb) o1 r' (nd_of o1.nd (List.nodup_append.mp nd').2.1 fun a h z => nd_apart nd' a h (s1 a z)) (fun a h => dz a (List.mem_append_right _ h)) gv
      refine ⟨F', o, fun a h => ?_⟩
      rcases List.mem_append.mp (s a h) with z | z
      · have := s1 a z
        simp only [List.mem_append] at this ⊢
        rcases this with y | y <;> simp [y]
      · simp [z]
    cases r with
    | no r => exact go [] _ .no r rfl
    | cons q r => exact go _ _ q r rfl
  | some i :: gb, t :: io, v :: vs, [], Γ, δ, F, G, ok, r, nd, dz, gv => by cases r
  | none :: gb, t :: io, v :: vs, [], Γ, δ, F, G, ok, r, nd, dz, gv => by cases r
/-- f(e, ..), lists of slots handed over and back -/
theorem mCall {k : Nat} {f : Addr} {fd : FuncData} {ps : List Str} {S : FS} {x : Str} {p pos : Pos} {e : Expr} {es : List Expr} {gb : List (Option Nat)} {fa : LM} (Fn : FnOk X.prog X.w X.K X.mg X.base CX0 k f fd ps (spF X.K S)) (hr : Room k X.A) (hg : Gl X x) (hm : X.mg x = some (.ref f)) (hk : PySem.W.keepIn X.K (.ref f) = true)
    (hb : Binds X.K fd ps []) (ha : PA X (e :: es) (aM X.K Γ Γ' S.ps gb fa)) (hdb : (x == ("__debug__" : Str)) = false := by decide)
    (he : starEach (e :: es) X.env = (false, eval e X.env) :: starEach es X.env := by rfl) (hpl : (backTo pos (starEach es X.env)).any (·.1) = false := by rfl) :
    PE X (.Call (.Name x p) (e :: es) [] pos) (tM X.K Γ (giveT gb S.io Γ') S.t (xCallM gb S.f fa)) := (pe_call Fn hr hg hm hk hb .nil pass0 ha hdb he hpl).imp fun σ H Q ⟨δ, Z, F, d, δ', ok, e, k⟩ => by
  obtain ⟨⟨ds, δ1⟩, e1, e2⟩ := Option.bind_eq_some_iff.mp e
  obtain ⟨⟨d', ds'⟩, e3, e4⟩ := Option.map_eq_some_iff.mp e2
  cases e4
  refine ⟨δ, Z, F, ds, δ1, ok, e1, fun vs H1 Z1 F1 g s1 ok1 r1 nd1 dz1 gv => ?_⟩
  refine ⟨ds, Z1, g, d', ds', ⟨by rw [List.append_nil]; exact r1, (List.nodup_append.mp nd1).2.1, dz1, ok1.zs⟩, e3, fun v H' Z' F2 g2 s2 o2 r2 nd2 dz2 => ?_⟩
  rw [List.append_nil] at o2
  have ap1 : ∀ a ∈ F1, a ∉ g := fun a ha hb => nd_apart nd1 a hb ha
  have okF : Ok X.K Γ' σ δ1 H' Z' F1 := ⟨ok1.env.step s2 r1.mu dz1 ap1, ok1.nd, s2.dzs ok1.mu ok1.dz ap1, fun a h => o2.zs a h⟩
  have ap := s2.apart ok1.mu ap1
  obtain ⟨F3, o3, sb⟩ := give okF o2.env (nd_of ok1.nd o2.nd fun a h z => ap a z (List.mem_append_left _ h)) o2.dz gv
  refine k v H' Z' F3 g2 ?_ o3 r2 (nd_of o3.nd (List.nodup_append.mp nd2).2.1 fun a h z => ?_) dz2
  · have s3 : Stp H1 Z1 (F1 ++ g) H' Z' ((F2 ++ g2) ++ F1) := (s2.frame (g := F1)).wide fun a h => by simp only [List.mem_append] at h ⊢; exact h.symm
    refine s1.trans (s3.sub fun a h => ?_)
    rcases List.mem_append.mp h with h | h
    · have := sb a h
      simp only [List.mem_append] at this ⊢
      rcases this with y | y <;> simp [y]
    · simp [h]
  · rcases List.mem_append.mp (sb a z) with y | y
    · exact ap a y (List.mem_append_right _ h)
    · exact nd_apart nd2 a h y
end
end Pv

set_option Elab.async false
set_option linter.all false
set_option maxRecDepth 100000
/-! Pv6: lists changed in their slots: append, pop, insert, x[i] = v, x[i].append(v). -/
namespace Pv
open PySem PySem.Spec PyProof.Rows L2
section
variable {K : PySem.W.Frag} {X : Cx} {Γ Γ' Γ1 Γ2 : List T} {H H' H1 H2 : Hp} {Z Z' Z1 Z2 : FzT} {F F' F1 F2 : List Addr} {σ σ' σ1 : L2.St} {δ δ' : List D} {E : TyE} {en eb ec er : List T} {et : T} {W W' : Ends}
theorem RepA.app : ∀ {t : T} {xs ys : List V} {ds es : List D} {f g : List Addr}, RepA K H Z t xs ds f → RepA K H Z t ys es g → RepA K H Z t (xs ++ ys) (ds ++ es) (f ++ g)
  | _, _, _, _, _, _, _, .nil, r => r
  | _, _, _, _, _, _, _, .cons h r, r' => by
    have := RepA.cons h (RepA.app r r')
    simpa [List.append_assoc] using this
theorem RepA.split : ∀ {t : T} {xs : List V} {ds es : List D} {f : List Addr}, RepA K H Z t xs (ds ++ es) f → ∃ xs1 xs2 f1 f2, xs = xs1 ++ xs2 ∧ f = f1 ++ f2 ∧ RepA K H Z t xs1 ds f1 ∧ RepA K H Z t xs2 es f2
  | t, xs, [], es, f, r => ⟨[], xs, [], f, rfl, rfl, .nil, r⟩
  | t, _, d :: ds, es, _, .cons (v := v) (f := f) h r => by
    obtain ⟨xs1, xs2, f1, f2, rfl, rfl, r1, r2⟩ := RepA.split r
    exact ⟨v :: xs1, xs2, f ++ f1, f2, rfl, by simp [List.append_assoc], .cons h r1, r2⟩
theorem RepA.one {t : T} {v : V} {d : D} {g : List Addr} (h : Rep K H Z t v d g) : RepA K H Z t [v] [d] g := by simpa using RepA.cons h RepA.nil
theorem RepA.uncons {t : T} {xs : List V} {d : D} {ds : List D} {f : List Addr} (r : RepA K H Z t xs (d :: ds) f) : ∃ v vs g h, xs = v :: vs ∧ f = g ++ h ∧ Rep K H Z t v d g ∧ RepA K H Z t vs ds h := by
  cases r with
  | cons h r => exact ⟨_, _, _, _, rfl, rfl, h, r⟩
theorem RepA.unone {t : T} {xs : List V} {d : D} {f : List Addr} (r : RepA K H Z t xs [d] f) : ∃ v, xs = [v] ∧ Rep K H Z t v d f := by
  obtain ⟨v, vs, g, h, rfl, rfl, r1, r2⟩ := r.uncons
  cases r2
  exact ⟨v, rfl, by simpa using r1⟩
theorem Stp.upd {a : Addr} {o : HO} (h : a ∈ F) : Stp H Z F (L2.upd H a o) Z F :=
  ⟨fun x u q n => by rw [upd_ne (fun z => n (by rw [z]; exact h))]; exact q, fun _ q => q, fun _ q => .inl q, fun _ q => .inl q, fun _ q => upd_live q, fun _ q => .inl q⟩
/-- a slot's list opened -/
theorem Ok.opn {i : Nat} {t : T} {ds : List D} (o : Ok K Γ σ δ H Z F) (ht : Γ[i]? = some (.ol t)) (e : δ[i]? = some (.list ds)) :
    ∃ a xs f F1, σ[i]? = some (some (.ref a)) ∧ H a = some (.lst xs) ∧ RepA K H Z t xs ds f ∧ Ok K (Γ.set i .no) σ δ H Z F1 ∧ (F1 ++ (a :: f)).Nodup ∧ ∀ x ∈ F1 ++ (a :: f), x ∈ F := by
  obtain ⟨v, F1, g, h1, h2, h3, h4, h5⟩ := o.take ht (fun z => nomatch z) e
  cases h2 with
  | ol ha r => exact ⟨_, _, _, F1, h1, ha, r, h3, h4, h5⟩
/-- .. and closed, other items in it -/
theorem Ok.put {i : Nat} {t : T} {a : Addr} {xs xs' : List V} {ds' : List D} {f' : List Addr} (o1 : Ok K (Γ.set i .no) σ δ H Z F1) (hi : Γ[i]? = some (.ol t)) (hv : σ[i]? = some (some (.ref a))) (ha : H a = some (.lst xs))
    (nd : (F1 ++ (a :: f')).Nodup) (dz : ∀ x ∈ a :: f', ¬ Z x) (r : RepA K (upd H a (.lst xs')) Z t xs' ds' f') : ∃ F', Ok K Γ σ (δ.set i (.list ds')) (upd H a (.lst xs')) Z F' ∧ ∀ x ∈ F', x ∈ F1 ++ (a :: f') := by
  have s : Stp H Z [a] (upd H a (.lst xs')) Z [a] := Stp.upd (by simp)
  have m : Mu H [a] := Mu.one ha
  have dza : ∀ x ∈ [a], ¬ Z x := fun x hx => dz x (by simp only [List.mem_singleton] at hx; rw [hx]; exact List.mem_cons_self)
  have nf1 : ∀ x ∈ F1, x ∉ [a] := fun x hx hz => nd_apart nd x (by simp only [List.mem_singleton] at hz; rw [hz]; exact List.mem_cons_self) hx
  have o2 : Ok K (Γ.set i .no) σ δ (upd H a (.lst xs')) Z F1 := ⟨o1.env.step s m dza nf1, o1.nd, o1.dz, fun x hx => upd_live (o1.zs x hx)⟩
  have rr : Rep K (upd H a (.lst xs')) Z (.ol t) (.ref a) (.list ds') (a :: f') := .ol upd_same r
  have hl : i < (Γ.set i .no).length := by rw [List.length_set]; exact (List.getElem?_eq_some_iff.mp hi).1
  obtain ⟨F', o3, sb⟩ := o2.set hl rr nd dz
  rw [set_self hv, List.set_set, set_self hi] at o3
  exact ⟨F', o3, sb⟩
theorem ofList {v : V} {d : D} {t : T} {g : List Addr} (r : Rep K H Z (.ol t) v d g) : ∃ a xs ds f, v = .ref a ∧ d = .list ds ∧ g = a :: f ∧ H a = some (.lst xs) ∧ RepA K H Z t xs ds f := by
  cases r with
  | ol h r => exact ⟨_, _, _, _, rfl, rfl, rfl, h, r⟩
theorem recv {i : Nat} {t : T} (o : Ok K Γ σ δ H Z F) (ht : Γ[i]? = some (.ol t)) : ∃ a xs, σ[i]? = some (some (.ref a)) ∧ H a = some (.lst xs) := by
  have hi : i < Γ.length := (List.getElem?_eq_some_iff.mp ht).1
  obtain ⟨d, hd⟩ : ∃ d, δ[i]? = some d := ⟨δ[i]'(by rw [o.env.len.2]; exact hi), by simp [o.env.len.2, hi]⟩
  obtain ⟨v, g, h1, h2, _⟩ := o.env.get ht (fun z => nomatch z) hd
  obtain ⟨a, xs, ds, f, rfl, rfl, rfl, h, r⟩ := ofList h2
  exact ⟨a, xs, h1, h⟩
theorem nd_set {A B C : List Addr} (h : (A ++ C).Nodup) (h2 : B.Nodup) (s : ∀ x ∈ B, x ∈ A) : (B ++ C).Nodup := nd_of h2 (List.nodup_append.mp h).2.1 fun x hx hb => nd_apart h x hx (s x hb)

def getL (δ : List D) (i : Nat) : Option (List D) := match δ[i]? with | some (.list ds) => some ds | _ => none
theorem getL_eq {i : Nat} {ds : List D} (h : getL δ i = some ds) : δ[i]? = some (.list ds) := by
  unfold getL at h
  split at h
  · cases h; assumption
  · cases h
/-- x.append(e) -/
def xApp (i : Nat) (f : EM) : EM := fun δ => (f δ).bind fun p => (getL p.2 i).bind fun ds => if ds.length < sizeLine then some (.none, p.2.set i (.list (ds ++ [p.1]))) else none
theorem mApp (i : Nat) {t : T} {c : Expr} {f : EM} (h : PE X c (tBM X.K "list" rAppend (tVar i) (tCons (tM X.K Γ Γ' t f) tNil))) (ht : Γ[i]? = some (.ol t)) (ht' : Γ'[i]? = some (.ol t)) : PE X c (tM X.K Γ Γ' .sh (xApp i f)) :=
  h.imp fun σ H Q ⟨δ, Z, F, d, δ', ok, e, k⟩ => by
  obtain ⟨⟨y, δ1⟩, e1, e2⟩ := Option.bind_eq_some_iff.mp e
  obtain ⟨ds, e3, e4⟩ := Option.bind_eq_some_iff.mp e2
  split at e4
  · rename_i hlt
    cases e4
    obtain ⟨a0, xs0, hv, hH⟩ := recv ok ht
    refine ⟨.ref a0, hv, .inl ⟨rfl, xs0, SqL.of hH⟩, δ, Z, F, y, δ1, ok, e1, fun v H1 Z1 F1 g1 s1 ok1 r1 nd1 dz1 => ?_⟩
    obtain ⟨a, xs, fs, F2, hv', ha, ra, o2, nd2, sb2⟩ := ok1.opn ht' (getL_eq e3)
    rw [hv] at hv'
    have ea : a0 = a := by simpa using hv'
    subst ea
    have nd3 : (F2 ++ (a0 :: fs) ++ g1).Nodup := nd_set nd1 nd2 sb2
    have nd4 : (F2 ++ (a0 :: (fs ++ g1))).Nodup := by simpa [List.append_assoc] using nd3
    have dz4 : ∀ x ∈ a0 :: (fs ++ g1), ¬ Z1 x := fun x hx => by
      rcases List.mem_cons.mp hx with h | h
      · exact ok1.dz x (sb2 x (by simp [h]))
      · rcases List.mem_append.mp h with h | h
        · exact ok1.dz x (sb2 x (by simp [h]))
        · exact dz1 x h
    have su : Stp H1 Z1 [a0] (upd H1 a0 (.lst (xs ++ [v]))) Z1 [a0] := Stp.upd (by simp)
    have mu : Mu H1 [a0] := Mu.one ha
    have dza : ∀ x ∈ [a0], ¬ Z1 x := fun x hx => dz4 x (by simp only [List.mem_singleton] at hx; simp [hx])
    have nda : a0 ∉ fs ++ g1 := (List.nodup_cons.mp (List.nodup_append.mp nd4).2.1).1
    have rN : RepA X.K (upd H1 a0 (.lst (xs ++ [v]))) Z1 t (xs ++ [v]) (ds ++ [y]) (fs ++ g1) :=
      (ra.app (RepA.one r1)).step su mu dza fun x hx hz => nda (by simp only [List.mem_singleton] at hz; rw [hz] at hx; exact hx)
    obtain ⟨F3, o3, sb3⟩ := o2.put ht' hv ha nd4 dz4 rN
    have hlen : xs.length < sizeLine := by rw [Rep.len ra]; exact hlt
    refine ⟨a0, xs, v, rfl, rfl, ha, hlen, k .non _ Z1 F3 [] ?_ o3 (.sh .non) (by simpa using o3.nd) (fun _ q => nomatch q)⟩
    have h1 : a0 ∈ F1 ++ g1 := List.mem_append_left _ (sb2 a0 (by simp))
    refine (s1.trans (Stp.upd h1)).sub fun x hx => ?_
    have := sb3 x (by simpa using hx)
    rcases List.mem_append.mp this with h | h
    · exact List.mem_append_left _ (sb2 x (List.mem_append_left _ h))
    · rcases List.mem_cons.mp h with h | h
      · exact List.mem_append_left _ (sb2 x (by simp [h]))
      · rcases List.mem_append.mp h with h | h
        · exact List.mem_append_left _ (sb2 x (by simp [h]))
        · exact List.mem_append_right _ h
  · cases e4
theorem last_split {ds : List D} {d : D} (h : ds.getLast? = some d) : ds = ds.dropLast ++ [d] := by
  obtain ⟨l, e⟩ := List.getLast?_eq_some_iff.mp h
  rw [e, List.dropLast_concat]
/-- an item is taken out of a slot's list -/
theorem out_ok {i : Nat} {t : T} {a : Addr} {xs xs1 xs2 : List V} {v : V} {ds1 ds2 : List D} {d : D} {f1 g f2 : List Addr} (o2 : Ok K (Γ.set i .no) σ δ H Z F2) (hi : Γ[i]? = some (.ol t)) (hv : σ[i]? = some (some (.ref a))) (ha : H a = some (.lst xs))
    (nd : (F2 ++ (a :: (f1 ++ g ++ f2))).Nodup) (dz : ∀ x ∈ a :: (f1 ++ g ++ f2), ¬ Z x) (r1 : RepA K H Z t xs1 ds1 f1) (rv : Rep K H Z t v d g) (r2 : RepA K H Z t xs2 ds2 f2) :
    ∃ F', Ok K Γ σ (δ.set i (.list (ds1 ++ ds2))) (upd H a (.lst (xs1 ++ xs2))) Z F' ∧ (∀ x ∈ F', x ∈ F2 ++ (a :: (f1 ++ f2))) ∧ Rep K (upd H a (.lst (xs1 ++ xs2))) Z t v d g ∧ (F' ++ g).Nodup ∧ (∀ x ∈ g, ¬ Z x) := by
  have nd' : ((F2 ++ (a :: (f1 ++ f2))) ++ g).Nodup := by
    refine List.Perm.nodup ?_ nd
    simp only [List.append_assoc, List.cons_append]
    exact (List.Perm.cons a ((List.perm_append_comm).append_left f1)).append_left F2
  have su : Stp H Z [a] (upd H a (.lst (xs1 ++ xs2))) Z [a] := Stp.upd (by simp)
  have mu : Mu H [a] := Mu.one ha
  have dza : ∀ x ∈ [a], ¬ Z x := fun x hx => dz x (by simp only [List.mem_singleton] at hx; simp [hx])
  have nda : a ∉ f1 ++ g ++ f2 := (List.nodup_cons.mp (List.nodup_append.mp nd).2.1).1
  have rN : RepA K (upd H a (.lst (xs1 ++ xs2))) Z t (xs1 ++ xs2) (ds1 ++ ds2) (f1 ++ f2) :=
    (r1.app r2).step su mu dza fun x hx hz => nda (by simp only [List.mem_singleton] at hz; rw [hz] at hx; simp only [List.mem_append] at hx ⊢; rcases hx with h | h <;> simp [h])
  obtain ⟨F3, o3, sb3⟩ := o2.put hi hv ha (List.nodup_append.mp nd').1 (fun x hx => dz x (by simp only [List.mem_cons, List.mem_append] at hx ⊢; rcases hx with h | h | h <;> simp [h])) rN
  exact ⟨F3, o3, sb3, rv.step su mu dza fun x hx hz => nda (by simp only [List.mem_singleton] at hz; rw [hz] at hx; simp [hx]), nd_set nd' o3.nd sb3, fun x hx => dz x (by simp [hx])⟩
/-- x.pop() -/
def xPop (i : Nat) : EM := fun δ => (getL δ i).bind fun ds => ds.getLast?.map fun d => (d, δ.set i (.list ds.dropLast))
theorem mPop (i : Nat) {t : T} {c : Expr} (h : PE X c (tBM0 X.K "list" rPop (tVar i))) (ht : Γ[i]? = some (.ol t)) : PE X c (tM X.K Γ Γ t (xPop i)) :=
  h.imp fun σ H Q ⟨δ, Z, F, d, δ', ok, e, k⟩ => by
  obtain ⟨ds, e1, e2⟩ := Option.bind_eq_some_iff.mp e
  obtain ⟨d', e3, e4⟩ := Option.map_eq_some_iff.mp e2
  cases e4
  obtain ⟨a, xs, fs, F2, hv, ha, ra, o2, nd2, sb2⟩ := ok.opn ht (getL_eq e1)
  rw [last_split e3] at ra
  obtain ⟨xs1, xs2, f1, f2, rfl, rfl, r1, r2⟩ := ra.split
  obtain ⟨v, rfl, rv⟩ := r2.unone
  obtain ⟨F3, o3, sb3, rv', nd3, dz3⟩ := out_ok (xs2 := []) (ds2 := []) (f2 := []) o2 ht hv ha (by simpa using nd2) (fun x hx => ok.dz x (sb2 x (List.mem_append_right _ (by simpa using hx)))) r1 rv .nil
  simp only [List.append_nil] at o3 rv' sb3
  refine ⟨.ref a, hv, .inl ⟨rfl, _, SqL.of ha⟩, a, xs1 ++ [v], v, rfl, rfl, ha, by simp, ?_⟩
  rw [List.dropLast_concat]
  refine k v _ Z F3 f2 ?_ o3 rv' nd3 dz3
  refine (Stp.upd (sb2 a (by simp))).sub fun x hx => ?_
  rcases List.mem_append.mp hx with h | h
  · have := sb3 x h
    exact sb2 x (by simp only [List.mem_append, List.mem_cons] at this ⊢; rcases this with y | y | y <;> simp [y])
  · exact sb2 x (by simp [h])
theorem nth_split {α : Type} {l : List α} {n : Nat} {a : α} (h : l[n]? = some a) : l = l.take n ++ a :: l.drop (n + 1) := by
  obtain ⟨hn, e⟩ := List.getElem?_eq_some_iff.mp h
  rw [← e, List.getElem_cons_drop, List.take_append_drop]
theorem RepA.at {t : T} {xs : List V} {ds : List D} {f : List Addr} {n : Nat} {d : D} (r : RepA K H Z t xs ds f) (h : ds[n]? = some d) :
    ∃ v f1 g f2, xs[n]? = some v ∧ f = f1 ++ g ++ f2 ∧ RepA K H Z t (xs.take n) (ds.take n) f1 ∧ Rep K H Z t v d g ∧ RepA K H Z t (xs.drop (n + 1)) (ds.drop (n + 1)) f2 := by
  have hn : n < ds.length := (List.getElem?_eq_some_iff.mp h).1
  rw [nth_split h] at r
  obtain ⟨xs1, xs2, f1, f2, rfl, rfl, r1, r2⟩ := r.split
  obtain ⟨v, vs, g, h', rfl, rfl, rv, r3⟩ := r2.uncons
  have l1 : xs1.length = n := by rw [Rep.len r1, List.length_take]; omega
  refine ⟨v, f1, g, h', ?_, by simp [List.append_assoc], ?_, rv, ?_⟩
  · rw [List.getElem?_append_right (by omega), l1]; simp
  · rw [← l1, List.take_left]; rw [l1]; exact r1
  · rw [show (xs1 ++ v :: vs).drop (n + 1) = vs by rw [← l1]; simp]; exact r3
theorem Sh.intOf {v : V} {i : Int} (h : Sh K H Z v (.int i)) : v = .int i := by cases h; rfl
/-- x.pop(e) -/
def xPopAt (i : Nat) (f : EM) : EM := fun δ => (f δ).bind fun p => match p.1 with
  | .int j => (getL p.2 i).bind fun ds => if -(2 ^ 63) ≤ j ∧ j < 2 ^ 63 then (ixN ds.length j).bind fun n => (ds[n]?).map fun d => (d, p.2.set i (.list (ds.eraseIdx n))) else none
  | _ => none
theorem erase_eq {α : Type} (l : List α) (n : Nat) : l.eraseIdx n = l.take n ++ l.drop (n + 1) := by rw [List.eraseIdx_eq_take_drop_succ]
theorem mPopAt (i : Nat) {t : T} {c : Expr} {f : EM} (h : PE X c (tBM X.K "list" rPopAt (tVar i) (tCons (tM X.K Γ Γ' .sh f) tNil))) (ht : Γ[i]? = some (.ol t)) (ht' : Γ'[i]? = some (.ol t)) : PE X c (tM X.K Γ Γ' t (xPopAt i f)) :=
  h.imp fun σ H Q ⟨δ, Z, F, d, δ', ok, e, k⟩ => by
  obtain ⟨⟨y, δ1⟩, e1, e2⟩ := Option.bind_eq_some_iff.mp e
  cases y with
  | int j =>
    obtain ⟨ds, e3, e4⟩ := Option.bind_eq_some_iff.mp e2
    split at e4
    · rename_i hj
      obtain ⟨n, en, e5⟩ := Option.bind_eq_some_iff.mp e4
      obtain ⟨d', ed, e6⟩ := Option.map_eq_some_iff.mp e5
      cases e6
      obtain ⟨a0, xs0, hv, hH⟩ := recv ok ht
      refine ⟨.ref a0, hv, .inl ⟨rfl, xs0, SqL.of hH⟩, δ, Z, F, .int j, δ1, ok, e1, fun v H1 Z1 F1 g1 s1 ok1 r1 nd1 dz1 => ?_⟩
      obtain ⟨rs, rfl⟩ := r1.shOf
      have ev := rs.intOf
      subst ev
      obtain ⟨a, xs, fs, F2, hv', ha, ra, o2, nd2, sb2⟩ := ok1.opn ht' (getL_eq e3)
      rw [hv] at hv'
      have ea : a0 = a := by simpa using hv'
      subst ea
      have hl := Rep.len ra
      obtain ⟨w, f1, g, f2, hw, rfl, q1, qv, q2⟩ := ra.at ed
      obtain ⟨F3, o3, sb3, rv', nd3, dz3⟩ := out_ok o2 ht' hv ha nd2 (fun x hx => ok1.dz x (sb2 x (List.mem_append_right _ hx))) q1 qv q2
      rw [← erase_eq, ← erase_eq] at o3
      rw [← erase_eq] at rv'
      refine ⟨a0, xs, j, n, w, rfl, rfl, ha, hj.1, hj.2, by rw [hl]; exact (ixN_seq en).1, hw, k w _ Z1 F3 g ?_ o3 rv' nd3 dz3⟩
      have h1 : a0 ∈ F1 ++ [] := List.mem_append_left _ (sb2 a0 (by simp))
      refine (s1.trans (Stp.upd h1)).sub fun x hx => List.mem_append_left _ ?_
      rcases List.mem_append.mp hx with h | h
      · have := sb3 x h
        exact sb2 x (by simp only [List.mem_append, List.mem_cons] at this ⊢; rcases this with y | y | y | y <;> simp [y])
      · exact sb2 x (by simp [h])
    · cases e4
  | _ => cases e2
end
end Pv

set_option Elab.async false
set_option linter.all false
set_option maxRecDepth 100000
/-! Pv7: insert, x[j] = v, x[j].append(v); tuples and operators with parts that change something. -/
namespace Pv
open PySem PySem.Spec PyProof.Rows L2
section
variable {K : PySem.W.Frag} {X : Cx} {Γ Γ' Γ1 Γ2 : List T} {H H' H1 H2 : Hp} {Z Z' Z1 Z2 : FzT} {F F' F1 F2 : List Addr} {σ σ' σ1 : L2.St} {δ δ' : List D} {E : TyE} {en eb ec er : List T} {et : T} {W W' : Ends}
/-- the slot's list of shared items takes other shared items -/
theorem Ok.swap {i : Nat} {ds ds' : List D} {xs' : List V} {a : Addr} (ok : Ok K Γ σ δ H Z F) (ht : Γ[i]? = some (.ol .sh)) (e : δ[i]? = some (.list ds)) (hv : σ[i]? = some (some (.ref a))) (r : ShA K H Z xs' ds') :
    ∃ F', Ok K Γ σ (δ.set i (.list ds')) (upd H a (.lst xs')) Z F' ∧ a ∈ F ∧ ∀ x ∈ F', x ∈ F := by
  obtain ⟨a', xs, f, F1, hv', ha, ra, o2, nd2, sb2⟩ := ok.opn ht e
  rw [hv] at hv'
  have ea : a = a' := by simpa using hv'
  subst ea
  obtain ⟨_, rfl⟩ := ra.shA
  have mu : Mu H [a] := Mu.one ha
  have ma : a ∈ F := sb2 a (by simp)
  obtain ⟨F3, o3, sb3⟩ := o2.put ht hv ha nd2 (fun x hx => ok.dz x (sb2 x (List.mem_append_right _ hx))) ((r.step (Stp.upd (F := [a]) (by simp)) mu (fun x hx => by simp only [List.mem_singleton] at hx; rw [hx]; exact ok.dz a ma)).repA)
  exact ⟨F3, o3, ma, fun x hx => sb2 x (sb3 x hx)⟩
def rIns : V → List V → Hp → VK → Prop := fun x vs H Q => ∃ (l : Addr) (xs : List V) (i : Int) (y : V), x = .ref l ∧ vs = [.int i, y] ∧ H l = some (.lst xs) ∧ xs.length < sizeLine ∧ 0 ≤ i ∧ i < 2 ^ 63 ∧
    Q .non (upd H l (.lst (xs.take i.toNat ++ [y] ++ xs.drop i.toNat)))
theorem mt_ins : MtR X "list.insert" rIns := mt_insert
theorem ShA.take : ∀ {xs : List V} {ds : List D} (n : Nat), ShA K H Z xs ds → ShA K H Z (xs.take n) (ds.take n)
  | _, _, 0, _ => by simpa using ShA.nil
  | _, _, n + 1, .nil => .nil
  | _, _, n + 1, .cons h r => .cons h (ShA.take n r)
theorem ShA.drop : ∀ {xs : List V} {ds : List D} (n : Nat), ShA K H Z xs ds → ShA K H Z (xs.drop n) (ds.drop n)
  | _, _, 0, r => r
  | _, _, n + 1, .nil => .nil
  | _, _, n + 1, .cons h r => ShA.drop n r
theorem ShA.app : ∀ {xs ys : List V} {ds es : List D}, ShA K H Z xs ds → ShA K H Z ys es → ShA K H Z (xs ++ ys) (ds ++ es)
  | _, _, _, _, .nil, r => r
  | _, _, _, _, .cons h r, r' => .cons h (ShA.app r r')
theorem ShA.set : ∀ {xs : List V} {ds : List D} {v : V} {d : D} (n : Nat), ShA K H Z xs ds → Sh K H Z v d → ShA K H Z (xs.set n v) (ds.set n d)
  | _, _, _, _, _, .nil, _ => .nil
  | _, _, _, _, 0, .cons _ r, h => .cons h r
  | _, _, _, _, n + 1, .cons h' r, h => .cons h' (ShA.set n r h)
theorem ShA.get : ∀ {xs : List V} {ds : List D} {n : Nat} {d : D}, ShA K H Z xs ds → ds[n]? = some d → ∃ v, xs[n]? = some v ∧ Sh K H Z v d
  | _, _, _, _, .nil, h => by simp at h
  | _, _, 0, _, .cons h' r, h => by simp at h; subst h; exact ⟨_, rfl, h'⟩
  | _, _, n + 1, _, .cons h' r, h => by
    obtain ⟨v, h1, h2⟩ := ShA.get (n := n) r (by simpa using h)
    exact ⟨v, by simpa using h1, h2⟩
def xIns (i : Nat) (f : EM) (g : EF) : EM := fun δ => (f δ).bind fun p => (g p.2).bind fun y => match p.1 with
  | .int j => (getL p.2 i).bind fun ds => if ds.length < sizeLine ∧ 0 ≤ j ∧ j < 2 ^ 63 then some (.none, p.2.set i (.list (ds.take j.toNat ++ [y] ++ ds.drop j.toNat))) else none
  | _ => none
theorem slotL {i : Nat} {ds : List D} {t : T} (ok : Ok K Γ σ δ H Z F) (ht : Γ[i]? = some (.ol t)) (e : δ[i]? = some (.list ds)) : ∃ a xs f, σ[i]? = some (some (.ref a)) ∧ H a = some (.lst xs) ∧ RepA K H Z t xs ds f := by
  obtain ⟨a, xs, f, F1, hv', ha, ra, _⟩ := ok.opn ht e
  exact ⟨a, xs, f, hv', ha, ra⟩
theorem mIns (i : Nat) {c : Expr} {f : EM} {g : EF} (h : PE X c (tBM X.K "list" rIns (tVar i) (tCons (tM X.K Γ Γ' .sh f) (tCons (tP X.K Γ' .sh g) tNil)))) (ht : Γ[i]? = some (.ol .sh)) (ht' : Γ'[i]? = some (.ol .sh)) : PE X c (tM X.K Γ Γ' .sh (xIns i f g)) :=
  h.imp fun σ H Q ⟨δ, Z, F, d, δ', ok, e, k⟩ => by
  obtain ⟨⟨jd, δ1⟩, e1, e2⟩ := Option.bind_eq_some_iff.mp e
  obtain ⟨y, e3, e4⟩ := Option.bind_eq_some_iff.mp e2
  cases jd with
  | int j =>
    obtain ⟨ds, e5, e6⟩ := Option.bind_eq_some_iff.mp e4
    split at e6
    · rename_i hj
      cases e6
      obtain ⟨a0, xs0, hv, hH⟩ := recv ok ht
      refine ⟨.ref a0, hv, .inl ⟨rfl, xs0, SqL.of hH⟩, δ, Z, F, .int j, δ1, ok, e1, fun v H1 Z1 F1 g1 s1 ok1 r1 nd1 dz1 => ?_⟩
      obtain ⟨rs, rfl⟩ := r1.shOf
      have ev := rs.intOf
      subst ev
      refine ⟨δ1, Z1, F1, y, ok1, e3, fun w H2 Z2 g2 s2 r2 => ?_⟩
      have rw' := r2.shOf.1
      have ok2 := ok1.ext s2
      obtain ⟨a, xs, fs, hv', ha, ra⟩ := slotL ok2 ht' (getL_eq e5)
      rw [hv] at hv'
      have ea : a0 = a := by simpa using hv'
      subst ea
      obtain ⟨sa, _⟩ := ra.shA
      obtain ⟨F3, o3, ma, sb3⟩ := ok2.swap ht' (getL_eq e5) hv (((sa.take j.toNat).app (.cons rw' .nil)).app (sa.drop j.toNat))
      refine ⟨a0, xs, j, w, rfl, rfl, ha, by rw [sa.len]; exact hj.1, hj.2.1, hj.2.2, k .non _ Z2 F3 [] ?_ o3 (.sh .non) (by simpa using o3.nd) (fun _ q => nomatch q)⟩
      have s1' : Stp H Z F H1 Z1 F1 := by simpa using s1
      exact ((s1'.trans s2.stp).trans (Stp.upd ma)).sub fun x hx => sb3 x (by simpa using hx)
    · cases e6
  | _ => cases e4
/-- x[j] = v -/
def sSetIx (i : Nat) (f : EM) (g : EF) : SF := fun δ => (f δ).bind fun p => (g p.2).bind fun j => match j with
  | .int j => (getL p.2 i).bind fun ds => (ixN ds.length j).bind fun n => some (.nx (p.2.set i (.list (ds.set n p.1))))
  | _ => none
theorem zSetIx (i : Nat) {st : Stmt} {f : EM} {g : EF} (h : PS X st (tAsg (tM X.K Γ Γ' .sh f) (gSub (tVar i) (tP X.K Γ' .sh g) rSetL))) (ht' : Γ'[i]? = some (.ol .sh)) : PS X st (tS X.K Γ ⟨Γ', eb, ec, er, et⟩ (sSetIx i f g)) :=
  h.imp fun W σ H ⟨δ, Z, F, out, ok, e, p⟩ => by
  obtain ⟨⟨y, δ1⟩, e1, e2⟩ := Option.bind_eq_some_iff.mp e
  obtain ⟨jd, e3, e4⟩ := Option.bind_eq_some_iff.mp e2
  cases jd with
  | int j =>
    obtain ⟨ds, e5, e6⟩ := Option.bind_eq_some_iff.mp e4
    obtain ⟨n, e7, e8⟩ := Option.bind_eq_some_iff.mp e6
    cases e8
    refine ⟨δ, Z, F, y, δ1, ok, e1, fun v H1 Z1 F1 g1 s1 ok1 r1 nd1 dz1 => ?_⟩
    obtain ⟨rs, rfl⟩ := r1.shOf
    obtain ⟨a0, xs0, hv, hH⟩ := recv ok1 ht'
    refine ⟨.ref a0, hv, δ1, Z1, F1, .int j, ok1, e3, fun w H2 Z2 g2 s2 r2 => ?_⟩
    have ew := r2.shOf.1.intOf
    subst ew
    have ok2 := ok1.ext s2
    obtain ⟨a, xs, fs, hv', ha, ra⟩ := slotL ok2 ht' (getL_eq e5)
    rw [hv] at hv'
    have ea : a0 = a := by simpa using hv'
    subst ea
    obtain ⟨sa, _⟩ := ra.shA
    obtain ⟨F3, o3, ma, sb3⟩ := ok2.swap ht' (getL_eq e5) hv (sa.set n (rs.ext s2))
    refine ⟨a0, xs, j, n, rfl, rfl, ha, by rw [sa.len]; exact e7, p σ _ Z2 F3 ?_ o3 (.refl _ _)⟩
    have s1' : Stp H Z F H1 Z1 F1 := by simpa using s1
    exact ((s1'.trans s2.stp).trans (Stp.upd ma)).sub sb3
  | _ => cases e4
/-- x[j].append(e), all else at rest -/
def xNApp (i : Nat) (g f : EF) : EM := fun δ => (g δ).bind fun j => (f δ).bind fun y => match j with
  | .int j => (getL δ i).bind fun ds => (ixN ds.length j).bind fun n => match ds[n]? with
    | some (.list es) => if es.length < sizeLine then some (.none, δ.set i (.list (ds.set n (.list (es ++ [y]))))) else none
    | _ => none
  | _ => none
theorem set_split {α : Type} {l : List α} {n : Nat} {a : α} (h : n < l.length) : l.set n a = l.take n ++ a :: l.drop (n + 1) := by rw [List.set_eq_take_append_cons_drop, if_pos h]
theorem mNApp (i : Nat) {c : Expr} {f g : EF} (h : PE X c (tBM X.K "list" rAppend (tOp (rIxL X.K) (tVar i) (tP X.K Γ .sh g)) (tCons (tP X.K Γ .sh f) tNil))) (ht : Γ[i]? = some (.ol (.ol .sh))) : PE X c (tM X.K Γ Γ .sh (xNApp i g f)) :=
  h.imp fun σ H Q ⟨δ, Z, F, d, δ', ok, e, k⟩ => by
  obtain ⟨jd, e1, e2⟩ := Option.bind_eq_some_iff.mp e
  obtain ⟨y, e3, e4⟩ := Option.bind_eq_some_iff.mp e2
  cases jd with
  | int j =>
    obtain ⟨ds, e5, e6⟩ := Option.bind_eq_some_iff.mp e4
    obtain ⟨n, e7, e8⟩ := Option.bind_eq_some_iff.mp e6
    split at e8
    · rename_i es hes
      split at e8
      · rename_i hlt
        cases e8
        obtain ⟨a0, xs0, hv, hH⟩ := recv ok ht
        refine ⟨.ref a0, hv, δ, Z, F, .int j, ok, e1, fun w H1 Z1 g1 s1 r1 => ?_⟩
        have ew := r1.shOf.1.intOf
        subst ew
        have ok1 := ok.ext s1
        obtain ⟨a, xs, fs, F2, hv', ha, ra, o2, nd2, sb2⟩ := ok1.opn ht (getL_eq e5)
        rw [hv] at hv'
        have ea : a0 = a := by simpa using hv'
        subst ea
        obtain ⟨u, f1, gg, f2, hu, rfl, q1, qv, q2⟩ := ra.at hes
        have hnl : n < ds.length := (List.getElem?_eq_some_iff.mp hes).1
        obtain ⟨b, ys, es', fb, rfl, ee, rfl, hb, rb⟩ := ofList qv
        cases ee
        obtain ⟨sb', rfl⟩ := rb.shA
        have hat : atI xs j = some (.ref b) := by
          unfold atI
          rw [Rep.len ra, e7]
          exact hu
        refine ⟨a0, xs, j, .ref b, rfl, rfl, SqL.of ha, hat, .inl ⟨rfl, ys, SqL.of hb⟩, δ, Z1, F, y, ok1, e3, fun v H2 Z2 g2 s2 r2 => ?_⟩
        have rv := r2.shOf.1
        have hb2 : H2 b = some (.lst ys) := s2.keep b _ hb (by simp)
        have ha2 : H2 a0 = some (.lst xs) := s2.keep a0 _ ha (by simp)
        have sb2' := sb'.ext s2
        have bF : b ∈ F := sb2 b (by simp)
        have su : Stp H2 Z2 [b] (upd H2 b (.lst (ys ++ [v]))) Z2 [b] := Stp.upd (by simp)
        have mu : Mu H2 [b] := Mu.one hb2
        have ok2 := ok1.ext s2
        have dzb : ∀ x ∈ [b], ¬ Z2 x := fun x hx => by simp only [List.mem_singleton] at hx; rw [hx]; exact ok2.dz b bF
        have o2' := o2.ext s2
        have nd3 : (F2 ++ (a0 :: (f1 ++ [b] ++ f2))).Nodup := nd2
        have nb : ∀ x, x ∈ F2 ∨ x = a0 ∨ x ∈ f1 ∨ x ∈ f2 → x ∉ [b] := fun x hx hz => by
          simp only [List.mem_singleton] at hz
          subst hz
          simp only [List.nodup_append, List.nodup_cons, List.mem_append, List.mem_cons, List.mem_singleton, List.not_mem_nil, or_false] at nd3
          obtain ⟨_, ⟨n1, ⟨⟨_, _, n2⟩, _, n3⟩⟩, n4⟩ := nd3
          rcases hx with h | h | h | h
          · exact n4 x h x (.inr (.inl (.inr rfl))) rfl
          · exact n1 (.inl (.inr h.symm))
          · exact n2 x h x rfl rfl
          · exact n3 x (.inr rfl) x h rfl
        have o4 : Ok X.K (Γ.set i .no) σ δ (upd H2 b (.lst (ys ++ [v]))) Z2 F2 := ⟨o2'.env.step su mu dzb fun x hx => nb x (.inl hx), o2'.nd, o2'.dz, fun x hx => upd_live (o2'.zs x hx)⟩
        have ha3 : (upd H2 b (.lst (ys ++ [v]))) a0 = some (.lst xs) := by rw [upd_ne (fun z => nb a0 (.inr (.inl rfl)) (by simp [z]))]; exact ha2
        have rN : RepA X.K (upd H2 b (.lst (ys ++ [v]))) Z2 (.ol .sh) xs (ds.set n (.list (es ++ [y]))) (f1 ++ [b] ++ f2) := by
          have p1 := (q1.ext s2).step su mu dzb fun x hx => nb x (.inr (.inr (.inl hx)))
          have p2 := (q2.ext s2).step su mu dzb fun x hx => nb x (.inr (.inr (.inr hx)))
          have pm : Rep X.K (upd H2 b (.lst (ys ++ [v]))) Z2 (.ol .sh) (.ref b) (.list (es ++ [y])) [b] := .ol upd_same (((sb2'.app (.cons rv .nil)).step su mu dzb).repA)
          have := (p1.app (RepA.one pm)).app p2
          rw [set_split hnl]
          rw [nth_split hu]
          simpa [List.append_assoc] using this
        have rA : Rep X.K (upd H2 b (.lst (ys ++ [v]))) Z2 (.ol (.ol .sh)) (.ref a0) (.list (ds.set n (.list (es ++ [y])))) (a0 :: (f1 ++ [b] ++ f2)) := .ol ha3 rN
        have hl : i < (Γ.set i .no).length := by rw [List.length_set]; exact (List.getElem?_eq_some_iff.mp ht).1
        obtain ⟨F3, o5, sb5⟩ := o4.set hl rA nd3 fun x hx => ok2.dz x (sb2 x (List.mem_append_right _ hx))
        rw [set_self hv, List.set_set, set_self ht] at o5
        have hlen : ys.length < sizeLine := by rw [sb'.len]; exact hlt
        refine ⟨b, ys, v, rfl, rfl, hb2, hlen, k .non _ Z2 F3 [] ?_ o5 (.sh .non) (by simpa using o5.nd) (fun _ q => nomatch q)⟩
        exact (((s1.trans s2).stp).trans (Stp.upd bF)).sub fun x hx => sb2 x (sb5 x (by simpa using hx))
      · cases e8
    · cases e8
  | _ => cases e4
/-! ### displays and operators with parts that change something -/
def xLM (o : List D → Option D) (r : LM) : EM := fun δ => (r δ).bind fun p => (o p.1).map (·, p.2)
theorem mTup {x1} {es : List Expr} {pos : Pos} {ts : List T} {gb : List (Option Nat)} {f : LM} (h : PA X es (aM X.K Γ Γ' ts gb f)) (ht : ts.all (· == .sh) = true := by rfl) : PE X (.Tuple es x1 pos) (tM X.K Γ Γ' .sh (xLM mkTup f)) :=
  (pe_tup h).imp fun σ H Q ⟨δ, Z, F, d, δ', ok, e, k⟩ => by
    obtain ⟨⟨ds, δ1⟩, eds, e⟩ := Option.bind_eq_some_iff.mp e
    obtain ⟨d', e', e''⟩ := Option.map_eq_some_iff.mp e
    cases e''
    refine ⟨δ, Z, F, ds, δ1, ok, eds, fun vs H1 Z1 F1 g s1 ok1 r1 nd1 dz1 gv => ?_⟩
    have sa := Env.shA r1 ht
    have eg := r1.shs ht
    subst eg
    unfold mkTup at e'
    split at e'
    · rename_i hl
      cases e'
      refine ⟨by rw [sa.len]; exact hl, fun p hp => k _ _ Z1 F1 [] (s1.trans (Ext.stp (Ext.new hp))) (ok1.ext (Ext.new hp)) (.sh (.tup upd_same (sa.ext (Ext.new hp)))) nd1 (fun _ q => nomatch q)⟩
    · cases e'
/-- the left part may change something, or the right one: shared values -/
def x2M (o : D → D → Option D) (a b : EM) : EM := fun δ => (a δ).bind fun p => (b p.2).bind fun q => (o p.1 q.1).map (·, q.2)
theorem p2M {r : R2} {o : D → D → Option D} {fa fb : EM} (hs : OpS K r .sh .sh .sh o) {σ : L2.St} {Q : VK} (h : tM K Γ Γ2 .sh (x2M o fa fb) σ H Q) : tOp r (tM K Γ Γ1 .sh fa) (tM K Γ1 Γ2 .sh fb) σ H Q := by
  obtain ⟨δ, Z, F, d, δ', ok, e, k⟩ := h
  obtain ⟨⟨x, δ1⟩, ex, e⟩ := Option.bind_eq_some_iff.mp e
  obtain ⟨⟨y, δ2⟩, ey, e⟩ := Option.bind_eq_some_iff.mp e
  obtain ⟨d', e', e''⟩ := Option.map_eq_some_iff.mp e
  cases e''
  refine ⟨δ, Z, F, x, δ1, ok, ex, fun v H1 Z1 F1 g s1 ok1 r1 nd1 dz1 => ⟨δ1, Z1, F1, y, δ2, ok1, ey, fun w H2 Z2 F2 g2 s2 ok2 r2 nd2 dz2 => ?_⟩⟩
  obtain ⟨q1, rfl⟩ := r1.shOf
  obtain ⟨q2, rfl⟩ := r2.shOf
  refine hs H2 Z2 v w x y d [] [] Q (.sh (q1.step s2 ok1.mu ok1.dz)) (.sh q2) e' fun v' H' Z' h s3 r3 => ?_
  obtain ⟨q3, rfl⟩ := r3.shOf
  exact k v' H' Z' F2 [] (by simpa using ((by simpa using s1 : Stp H Z F H1 Z1 F1).trans (by simpa using s2 : Stp H1 Z1 F1 H2 Z2 F2)).trans s3.stp) (ok2.ext s3) (.sh q3) nd2 (fun _ q => nomatch q)
theorem m2 {op : Operator} {r : R2} {o : D → D → Option D} {fa fb : EM} {a b : Expr} {pos : Pos} (ho : OpR X (binaryOp op) r) (hs : OpS X.K r .sh .sh .sh o) (ha : PE X a (tM X.K Γ Γ1 .sh fa)) (hb : PE X b (tM X.K Γ1 Γ2 .sh fb)) :
    PE X (.BinOp a op b pos) (tM X.K Γ Γ2 .sh (x2M o fa fb)) := (pe_op ho ha hb).imp fun _ _ _ => p2M hs
def bME (f : EM) : BM := fun δ => (f δ).bind fun p => (toB p.1).map (·, p.2)
theorem tBM_of {te : TE} {f : EM} {σ : L2.St} {Q : Bool → Hp → Prop} (hq : ∀ Q, tM K Γ Γ' .sh f σ H Q → te σ H Q) (h : bM K Γ Γ' (bME f) σ H Q) : te σ H fun x H' => ∃ k, x = .bl k ∧ Q k H' := by
  obtain ⟨δ, Z, F, b, δ', ok, e, k⟩ := h
  obtain ⟨⟨d, δ1⟩, ed, e⟩ := Option.bind_eq_some_iff.mp e
  obtain ⟨b', eb, e''⟩ := Option.map_eq_some_iff.mp e
  cases e''
  refine hq _ ⟨δ, Z, F, d, δ1, ok, ed, fun v H' Z' F' g s ok' r nd dz => ?_⟩
  obtain ⟨rs, rfl⟩ := r.shOf
  obtain ⟨rfl, rfl⟩ := toB_sh rs eb
  exact ⟨_, rfl, k H' Z' F' (by simpa using s) ok'⟩
theorem qCmpM {op : CmpOp} {r : R2} {o : D → D → Option D} {fa fb : EM} {a b : Expr} {pos : Pos} (ho : OpR X (compareOp op) r) (hs : OpS X.K r .sh .sh .sh o) (ha : PE X a (tM X.K Γ Γ1 .sh fa)) (hb : PE X b (tM X.K Γ1 Γ2 .sh fb)) (hm : behindInMarks op b = false) :
    PT X (.Compare a [op] [b] pos) (bM X.K Γ Γ2 (bME (x2M o fa fb))) := (pt_cmpR ho ha hb hm).imp fun _ _ _ h => tBM_of (fun Q => p2M hs) h
theorem qValM {f : EM} {e : Expr} (h : PE X e (tM X.K Γ Γ' .sh f)) (he : ∀ whole, isTrue e X.env whole = (do let v ← whole; standAt e.pos; holding [v] (truthy v)) := by intro _; rfl) : PT X e (bM X.K Γ Γ' (bME f)) :=
  (pt_val h he).imp fun _ _ _ h => tBM_of (fun Q q => q) h
def bMOf (f : BF) : BM := fun δ => (f δ).map (·, δ)
theorem bMOfP {f : BF} {e : Expr} (h : PT X e (bP X.K Γ f)) : PT X e (bM X.K Γ Γ (bMOf f)) := h.imp fun σ H Q ⟨δ, Z, F, b, δ', ok, e, k⟩ => by
  obtain ⟨b', eb, e''⟩ := Option.map_eq_some_iff.mp e
  cases e''
  exact ⟨δ, Z, F, b, ok, eb, fun H' Z' s => k H' Z' F s.stp (ok.ext s)⟩
def bNotM (f : BM) : BM := fun δ => (f δ).map fun p => (!p.1, p.2)
theorem qNotM {f : BM} {e : Expr} {pos : Pos} (h : PT X e (bM X.K Γ Γ' f)) : PT X (.UnaryOp .Not e pos) (bM X.K Γ Γ' (bNotM f)) := (pt_not h).imp fun σ H Q ⟨δ, Z, F, b, δ', ok, e, k⟩ => by
  obtain ⟨⟨c, δ1⟩, ec, e⟩ := Option.map_eq_some_iff.mp e
  cases e
  exact ⟨δ, Z, F, c, δ1, ok, ec, k⟩
/-- a and b, b changing something: the slots behind it as without (types alike) -/
def bAndM (f g : BM) : BM := fun δ => (f δ).bind fun p => if p.1 then g p.2 else some (false, p.2)
def bOrM (f g : BM) : BM := fun δ => (f δ).bind fun p => if p.1 then some (true, p.2) else g p.2
theorem qAnd1M {f : BM} {a : Expr} {pos : Pos} (h : PT X a (bM X.K Γ Γ' f)) : PW X (.BoolOp .And [a] pos) (bM X.K Γ Γ' f) := pw_and1 h
theorem qOr1M {f : BM} {a : Expr} {pos : Pos} (h : PT X a (bM X.K Γ Γ' f)) : PW X (.BoolOp .Or [a] pos) (bM X.K Γ Γ' f) := pw_or1 h
theorem qAndM {f g : BM} {a b : Expr} {rest : List Expr} {pos : Pos} (h : PT X a (bM X.K Γ Γ f)) (h2 : PW X (.BoolOp .And (b :: rest) pos) (bM X.K Γ Γ g)) : PW X (.BoolOp .And (a :: b :: rest) pos) (bM X.K Γ Γ (bAndM f g)) :=
  (pw_and h h2).imp fun σ H Q ⟨δ, Z, F, b, δ', ok, e, k⟩ => by
    obtain ⟨⟨c, δ1⟩, ec, e⟩ := Option.bind_eq_some_iff.mp e
    refine ⟨δ, Z, F, c, δ1, ok, ec, fun H1 Z1 F1 s1 ok1 => ?_⟩
    cases c with
    | true => exact ⟨δ1, Z1, F1, b, δ', ok1, e, fun H' Z' F' s o => k H' Z' F' (s1.trans s) o⟩
    | false => cases e; exact k H1 Z1 F1 s1 ok1
theorem qOrM {f g : BM} {a b : Expr} {rest : List Expr} {pos : Pos} (h : PT X a (bM X.K Γ Γ f)) (h2 : PW X (.BoolOp .Or (b :: rest) pos) (bM X.K Γ Γ g)) : PW X (.BoolOp .Or (a :: b :: rest) pos) (bM X.K Γ Γ (bOrM f g)) :=
  (pw_or h h2).imp fun σ H Q ⟨δ, Z, F, b, δ', ok, e, k⟩ => by
    obtain ⟨⟨c, δ1⟩, ec, e⟩ := Option.bind_eq_some_iff.mp e
    refine ⟨δ, Z, F, c, δ1, ok, ec, fun H1 Z1 F1 s1 ok1 => ?_⟩
    cases c with
    | true => cases e; exact k H1 Z1 F1 s1 ok1
    | false => exact ⟨δ1, Z1, F1, b, δ', ok1, e, fun H' Z' F' s o => k H' Z' F' (s1.trans s) o⟩
/-- a built-in's call with arguments that change something: shared values -/
theorem pLM {r : List V → Hp → VK → Prop} {ts : List T} {gb : List (Option Nat)} {o : List D → Option D} {f : LM} {σ : L2.St} {Q : VK} (hs : CalS K r ts .sh o) (ht : ts.all (· == .sh) = true) (h : tM K Γ Γ' .sh (xLM o f) σ H Q) : tCB r (aM K Γ Γ' ts gb f) σ H Q := by
  obtain ⟨δ, Z, F, d, δ', ok, e, k⟩ := h
  obtain ⟨⟨ds, δ1⟩, eds, e⟩ := Option.bind_eq_some_iff.mp e
  obtain ⟨d', e', e''⟩ := Option.map_eq_some_iff.mp e
  cases e''
  refine ⟨δ, Z, F, ds, δ1, ok, eds, fun vs H1 Z1 F1 g s1 ok1 r1 nd1 dz1 gv => ?_⟩
  have eg := r1.shs ht
  subst eg
  refine hs H1 Z1 vs ds d [] Q r1 e' fun v H' Z' h s2 r2 => ?_
  obtain ⟨q3, rfl⟩ := r2.shOf
  exact k v H' Z' F1 [] (s1.trans (by simpa using s2.stp)) (ok1.ext s2) (.sh q3) nd1 (fun _ q => nomatch q)
theorem mCallT {x : Str} {p pos : Pos} {e : Expr} {es : List Expr} {ty : String} {r : List V → Hp → VK → Prop} {ts : List T} {gb : List (Option Nat)} {o : List D → Option D} {f : LM} (hc : CallR X (.type ty) r) (hs : CalS X.K r ts .sh o) (ht : ts.all (· == .sh) = true) (hg : Gl X x) (hm : X.mg x = none) (hv : bootBuiltins x = some (.type ty))
    (ha : PA X (e :: es) (aM X.K Γ Γ' ts gb f)) (hn : x ≠ "__name__" := by decide) (hdb : (x == ("__debug__" : Str)) = false := by decide)
    (he : starEach (e :: es) X.env = (false, eval e X.env) :: starEach es X.env := by rfl) (hpl : (backTo pos (starEach es X.env)).any (·.1) = false := by rfl) : PE X (.Call (.Name x p) (e :: es) [] pos) (tM X.K Γ Γ' .sh (xLM o f)) :=
  (pe_callTy hc hg hm hv ha hn hdb he hpl).imp fun _ _ _ => pLM hs ht
end
end Pv

set_option Elab.async false
set_option linter.all false
set_option maxRecDepth 100000
/-! Pe: enumerate of a tuple. -/
namespace PySem
open Sem (wp)
open AutoSeq1 (wpAny_loadPart')
theorem pv_meets_enum_tuple (l : Addr) (items : Array Value) (n : Nat) (dct : Option Addr) (sl : Array (Option Value)) :
    Meets (Builtin.«enumerate.__new__» ⟨[.type "enumerate", .ref l], []⟩) (fun _ R s => s.heap.get? l = some { cls := .type "tuple", dict := dct, data := .seq items n, slots := sl } ∧
      R (.ok (.ret (.ref (s.heap.push { cls := .type "tuple_iterator", data := .fields #[.ref l, .int 0 0] }).objs.size)))
        { s with heap := (s.heap.push { cls := .type "tuple_iterator", data := .fields #[.ref l, .int 0 0] }).push { cls := .type "enumerate", data := .fields #[.none, .bool false, .ref s.heap.objs.size, rawInt 0, .none, .none] } }) :=
  .of_wp fun prog w A R s h => by
    obtain ⟨hp, g, d, tk, os⟩ := s; obtain ⟨hl, h⟩ := h
    have hsub := sub_enumerate
    have hL : Heap.IsTuple (Shared.heap ⟨hp, g, d, tk, os⟩) l items := ⟨_, hl, rfl, n, rfl⟩
    wp_walk using wpAny_loadPart' hl
    refine wpAny_stack_any fun st => wpAny_pure ?_
    split
    · rename_i c _ _ _ _ _
      cases (c == Value.type "enumerate")
      · wp_walk using wpAny_loadPart' hl, wpAny_pyIter_tuple hL
        exact ⟨_, rfl, h⟩
      · wp_walk using wpAny_loadPart' hl, wpAny_pyIter_tuple hL
        exact ⟨_, rfl, h⟩
    · wp_walk using wpAny_loadPart' hl, wpAny_pyIter_tuple hL
      exact ⟨_, rfl, h⟩
section
variable {prog : Program} {w : World} {A : Around} {E : Value → Shared → Prop} {s : Shared}
theorem pv_call_enum_tuple {l : Addr} {items : Array Value} {Q : Value → Shared → Prop} (hL : s.heap.IsTuple l items)
    (h : ∀ h', IsEnum h' (s.heap.objs.size + 1) s.heap.objs.size 0 .none → h'.IsTupleIter s.heap.objs.size l 0 → h'.objs.size = s.heap.objs.size + 2 →
      (∀ b o, s.heap.get? b = some o → h'.get? b = some o) → Q (.ref (s.heap.objs.size + 1)) { s with heap := h' }) :
    wpAny (model prog w) A (call (.type "enumerate") [.ref l]) Q E s := by
  obtain ⟨⟨c, dct, dt, sl⟩, hl, hc, n, hd⟩ := hL
  replace hc : c = .type "tuple" := hc
  replace hd : dt = .seq items n := hd
  subst hc hd
  refine callType_new F.called_enumerate (by decide) (F.typeCall_enumerate_1 _) (F.newCall_enumerate_1 _) (fun obj => F.args_object_init_2 obj _) F.entry_enumerate_new
    (pv_meets_enum_tuple l items n dct sl) ⟨hl, ?_⟩
  have hz : (s.heap.push { cls := .type "tuple_iterator", data := .fields #[.ref l, .int 0 0] }).objs.size = s.heap.objs.size + 1 := Heap.size_push ..
  show _ ∧ _
  rw [hz]
  have he : IsEnum ((s.heap.push { cls := .type "tuple_iterator", data := .fields #[.ref l, .int 0 0] }).push
      { cls := .type "enumerate", data := .fields #[.none, .bool false, .ref s.heap.objs.size, rawInt 0, .none, .none] }) (s.heap.objs.size + 1) s.heap.objs.size 0 .none := by
    have := Heap.get?_push_size (s.heap.push { cls := .type "tuple_iterator", data := .fields #[.ref l, .int 0 0] })
      (o := { cls := .type "enumerate", data := .fields #[.none, .bool false, .ref s.heap.objs.size, rawInt 0, .none, .none] }) rfl
    rw [hz] at this; exact this
  refine ⟨⟨_, he, rfl⟩, h _ he ⟨_, Heap.get?_push_of_some _ (Heap.get?_push_size _ rfl), rfl, rfl⟩ (by rw [Heap.size_push, hz]) fun b o x => Heap.get?_push_of_some _ (Heap.get?_push_of_some _ x)⟩
end
end PySem
namespace Pv
open PySem PySem.Spec PyProof.Rows L2
/-- the tuple at a, each item in a new pair -/
def IteT (K : PySem.W.Frag) (a : Addr) : It :=
  ⟨fun i H => ∃ (xs : List V) (x : V), SqT K H a xs ∧ xs[i]? = some x, fun i H v H' => ∃ T x, v = .ref T ∧ H T = none ∧ H' = upd H T (.tup [.int (i : Nat), x]) ∧ ∀ xs, SqT K H a xs → xs[i]? = some x, fun i H => ∃ xs : List V, SqT K H a xs ∧ xs.length ≤ i⟩
theorem turn_enumT {P : Program} {w : World} {K : PySem.W.Frag} {elts : List Expr} {kk : Nat} {tpos : Pos} (a e it : Addr) (items : Array Value) (hae : a ≠ it) :
    Turn P w K (.Tuple elts kk tpos) (IteT K a) [e, it] e (fun i h => (∃ old, IsEnum h e it ((i : Nat) : Int) old) ∧ h.IsTupleIter it a i ∧ e ≠ it) where
  mem := by simp
  obj := fun i h st b hb => by
    obtain ⟨⟨old, he⟩, ⟨o, ho, hc, hd⟩, _⟩ := st
    have e' : b = e ∨ b = it := by simpa using hb
    rcases e' with z | z
    · rw [z]; exact ⟨_, he, fun v q => nomatch q⟩
    · rw [z]; exact ⟨o, ho, fun v q => by rw [hd] at q; cases q⟩
  keep := fun i h h' st k => let ⟨⟨old, he⟩, hi, hne⟩ := st; ⟨⟨old, k e (by simp) _ he⟩, hi.at fun o q => k it (by simp) o q, hne⟩
  item := by
    intro X hP hw hK hc i pins s σ H E I hf st hg
    subst hP hw hK
    obtain ⟨⟨old, he⟩, hit, hne⟩ := st
    obtain ⟨xs, x, hq, hx⟩ := hg
    obtain ⟨its, rv, p, hz⟩ := I.tuple hq
    obtain ⟨u, hu, ru⟩ := rv.get hx
    have hel : e < s.heap.objs.size := Heap.lt_size he
    have hil : it < s.heap.objs.size := by obtain ⟨_, q, _⟩ := hit; exact Heap.lt_size q
    have nae : a ≠ e := fun z => by
      obtain ⟨o1, q1, q2, _⟩ := p
      rw [z, he] at q1
      cases q1
      exact absurd (Value.type.inj q2) (by decide)
    have DT := Draws.tuple (prog := X.prog) (w := X.w) (A := X.A.in1) (by exact I.ok.hd hc) it a hae its.toArray
    have hlt : i < its.toArray.size := by
      have := (List.getElem?_eq_some_iff.mp hx).1
      rw [List.size_toArray, ← rv.length]
      exact this
    refine wpAny_pyNext_enum_itemD DT he ⟨hit, show s.heap.IsTuple a its.toArray from p⟩ hlt hne (by simp only [List.mem_cons, List.not_mem_nil, or_false, not_or]; exact ⟨hne, fun z => nae z.symm⟩) fun y h' tk hy ho hst hT hsz hk => ?_
    have ey : y = u := by
      have : its.toArray[i]? = some y := hy
      rw [show its.toArray[i]? = its[i]? by simp] at this
      rw [hu] at this
      exact (Option.some.inj this).symm
    subst ey
    have hit' := hst.1
    refine ⟨_, rfl, wpAny_letOwnedTupleGo_enum (s := { s with heap := h', toks := tk + 1 }) ho fun h'' he' sb => ?_⟩
    have hT2 : h''.get? s.heap.objs.size = some { cls := .type "tuple", data := .seq #[.int i tk, y] } := (sb.2 _ (Nat.ne_of_gt hel)).trans hT
    have new : ObjOk X.prog X.w (upd H s.heap.objs.size (.tup [.int (i : Nat), x])) h'' s.heap.objs.size (.tup [.int (i : Nat), x]) :=
      ⟨by show 2 ≤ sizeLine; decide, [.int i tk, y], .cons ⟨_, rfl⟩ (.cons ru .nil), ⟨_, hT2, rfl, _, rfl⟩⟩
    have I1 : Inv X pins σ (upd H s.heap.objs.size (.tup [.int (i : Nat), x])) { s with heap := h'', toks := tk + 1 } :=
      I.turnedNew (ch := [e, it]) (fun b ob hb q => (sb.2 b (fun z => hb (by simp [z]))).trans (hk b ob (fun z => hb (by simp [z])) (fun z => hb (by simp [z])) q)) hf (Nat.le_refl _) new
    refine ⟨.ref s.heap.objs.size, _, I1, rfl, ⟨_, x, rfl, I.hok.fresh (Nat.le_refl _), rfl, fun ys hy => by rw [I.tuple_inj hy hq]; exact hx⟩, ⟨⟨y, ?_⟩, hit'.at fun o q => (sb.2 it (Ne.symm hne)).trans q, hne⟩, fun b hb => ?_⟩
    · have e1 : ((i + 1 : Nat) : Int) = (i : Int) + 1 := by omega
      rw [e1]; exact he'
    · have hb' : b < s.heap.objs.size := by
        have e' : b = e ∨ b = it := by simpa using hb
        rcases e' with z | z
        · rw [z]; exact hel
        · rw [z]; exact hil
      rw [upd_ne (Nat.ne_of_lt hb')]
      exact (hf b hb).1
  done := by
    intro X hP hw hK hc i pins s σ H E I hf st hg
    subst hP hw hK
    obtain ⟨⟨old, he⟩, hit, hne⟩ := st
    obtain ⟨xs, hq, hx⟩ := hg
    obtain ⟨its, rv, p, hz⟩ := I.tuple hq
    obtain ⟨f0, f1, f2, f3, f4, f5⟩ := hf it (by simp)
    have hl := rv.length
    have hT : s.TypeIs (.ref e) "enumerate" := ⟨_, he, rfl⟩
    unfold pyNext
    refine wpAny_bind (wpAny_attempt (wpAny_callSpecial?_slot (name := Str.ofString "__next__") hT F.slot_enumerate_next
      (wpAny_call_entry F.slot_enumerate_next hT F.entry_enumerate_next ?_ (F.args_enumerate_next_1 _))))
    show wpAny _ _ (field (.ref e) 2 >>= _) _ _ _
    refine wpAny_bind (wpAny_field he rfl (x := .ref it) rfl ?_)
    refine wpAny_bind (wpAny_nextOf_tuple_end (I.ok.hd hc) hit (show s.heap.IsTuple a its.toArray from p) (by simp; omega) fun h' x he' hx' => ?_)
    obtain ⟨o, ho, hc'⟩ := hx'
    refine wpAny_bind (wpAny_isInstance (T := "StopIteration") (b := true) ⟨o, ho, hc'⟩ isSubtype_stop ?_)
    exact wpAny_pure ⟨rfl, I.turned (t' := s.toks) (fun b o hb q => he' b o hb q) f0 f1 f3 f4 f5⟩
  self := fun A i s Q E st h => let ⟨⟨_, he⟩, _⟩ := st; wpAny_pyIter_enum he h
def iEnumT (K : PySem.W.Frag) (ta : TA) : TI := fun σ H R => ta σ H fun vs H1 => ∃ a xs, vs = [.ref a] ∧ SqT K H1 a xs ∧ R (IteT K a) H1
theorem pi_enumT {X : Cx} {e : Expr} {ta : TA} {p pos tpos : Pos} {elts : List Expr} {kk : Nat} (hg : Gl X "enumerate") (hm : X.mg "enumerate" = none) (ha : PA X [e] ta) (hs : starEach [e] X.env = [(false, eval e X.env)] := by rfl) :
    PI X (.Tuple elts kk tpos) (.Call (.Name "enumerate" p) [e] [] pos) (iEnumT X.K ta) := by
  refine ⟨fun pins s σ H R I h => ?_⟩
  refine Call_ (ld_blt I hg hm boot_enumerate (PyProof.Rows.callWith_type1 (thn (ha.run pos pins s σ H _ I h) fun us s1 ⟨vs, H1, I1, r1, q1⟩ => ?_) hs rfl))
  obtain ⟨a, xs, ex, hq, q⟩ := q1
  subst ex
  cases r1 with
  | cons r rr =>
    cases rr
    cases r
    obtain ⟨its, rv, p', hz⟩ := I1.tuple hq
    have hal : a < s1.heap.objs.size := by obtain ⟨o1, q1, _⟩ := p'; exact Heap.lt_size q1
    refine pv_call_enum_tuple (show s1.heap.IsTuple a its.toArray from p') fun h' he hit hsz hk => wpAny_pyIter_enum he ?_
    have I2 : Inv X pins σ H1 { s1 with heap := h' } := I1.kept (t' := s1.toks) hk
    refine ⟨s1.heap.objs.size + 1, [s1.heap.objs.size + 1, s1.heap.objs.size], _, _, H1, rfl, I2, turn_enumT a (s1.heap.objs.size + 1) s1.heap.objs.size its.toArray (Nat.ne_of_lt hal), ⟨⟨.none, he⟩, hit, Nat.succ_ne_self _⟩, fun b hb => ?_, q⟩
    have e' : b = s1.heap.objs.size + 1 ∨ b = s1.heap.objs.size := by simpa using hb
    have hle : s1.heap.objs.size ≤ b := by
      rcases e' with z | z
      · rw [z]; exact Nat.le_add_right _ _
      · rw [z]; exact Nat.le_refl _
    exact I1.fpOk hle (I1.hok.fresh hle)
theorem walk_enumT {K : PySem.W.Frag} {a : Addr} {xs : List V} : Walk (IteT K a) xs.length (fun H => SqT K H a xs) (YPair (fun i => some (.int (i : Nat))) (fun i => xs[i]?)) := by
  refine ⟨fun i _ hi q => ⟨xs, xs[i], q, by simp [hi]⟩, fun _ q => ⟨xs, q, Nat.le_refl _⟩, fun i H v H' _ q y => ?_⟩
  obtain ⟨T, x, h1, h2, h3, h4⟩ := y
  exact ⟨T, .int (i : Nat), x, h1, h2, h3, rfl, h4 xs q⟩
end Pv

set_option Elab.async false
set_option linter.all false
set_option maxRecDepth 100000
/-! Pv8: what is walked; for, while, list comprehensions. -/
namespace Pv
open PySem PySem.Spec PyProof.Rows L2
/-- a later heap: what is frozen is as it was -/
def Lat (H : Hp) (Z : FzT) (H2 : Hp) (Z2 : FzT) : Prop := ∃ F F2, Stp H Z F H2 Z2 F2 ∧ Mu H F ∧ ∀ a ∈ F, ¬ Z a
def Wks (K : PySem.W.Frag) (J : It) (ds : List D) (H : Hp) (Z : FzT) : Prop := ∃ (G : Hp → Prop) (Y : Nat → Hp → V → Hp → Prop), Walk J ds.length G Y ∧ (∀ H2 Z2, Lat H Z H2 Z2 → G H2) ∧
  ∀ i H2 Z2 x H3 d, Lat H Z H2 Z2 → Y i H2 x H3 → ds[i]? = some d → ∃ Z3, Ext H2 Z2 H3 Z3 ∧ Sh K H3 Z3 x d
def tI (K : PySem.W.Frag) (Γ Γ' : List T) (f : LM) : TI := fun σ H R => ∃ δ Z F ds δ', Ok K Γ σ δ H Z F ∧ f δ = some (ds, δ') ∧ ∀ J H' Z' F', Stp H Z F H' Z' F' → Ok K Γ' σ δ' H' Z' F' → Wks K J ds H' Z' → R J H'
def tIP (K : PySem.W.Frag) (Γ : List T) (f : LF) : TI := fun σ H R => ∃ δ Z F ds, Ok K Γ σ δ H Z F ∧ f δ = some ds ∧ ∀ J H' Z', Ext H Z H' Z' → Wks K J ds H' Z' → R J H'
def lmOf (f : LF) : LM := fun δ => (f δ).map (·, δ)
/-- the target of a for: d goes into the slots ix -/
def tG (K : PySem.W.Frag) (Γ Γ1 : List T) (ix : List Nat) (tg : D → List D → Option (List D)) : TG := fun v σ H Q => ∃ δ Z F d δ1, Ok K Γ σ δ H Z F ∧ Sh K H Z v d ∧ tg d δ = some δ1 ∧
  ∀ σ1 F1, Ok K Γ1 σ1 δ1 H Z F1 → (∀ a ∈ F1, a ∈ F) → σ1.length = σ.length → (∀ j, j ∉ ix → σ1[j]? = σ[j]?) → Q σ1 H
section
variable {K : PySem.W.Frag} {X : Cx} {Γ Γ' Γ1 Γ2 : List T} {H H' H1 H2 H3 : Hp} {Z Z' Z1 Z2 Z3 : FzT} {F F' F1 F2 : List Addr} {σ σ' σ1 : L2.St} {δ δ' : List D} {E : TyE} {en eb ec er : List T} {et : T} {W W' : Ends}
theorem _root_.L2.PI.imp {tg iter : Expr} {w w' : TI} (h : PI X tg iter w) (i : ∀ σ H R, w' σ H R → w σ H R) : PI X tg iter w' := ⟨fun pins s σ H R I q => h.run pins s σ H R I (i _ _ _ q)⟩
theorem _root_.L2.PI.or {tg iter : Expr} {w w' : TI} (h : PI X tg iter w) (h' : PI X tg iter w') : PI X tg iter (fun σ H R => w σ H R ∨ w' σ H R) := ⟨fun pins s σ H R I q => q.elim (fun q => h.run pins s σ H R I q) fun q => h'.run pins s σ H R I q⟩
theorem _root_.L2.PG.imp {tg : Expr} {t t' : TG} (h : PG X tg t) (i : ∀ v σ H Q, t' v σ H Q → t v σ H Q) : PG X tg t' := ⟨fun pins s σ H v u Q I r q => h.run pins s σ H v u Q I r (i _ _ _ _ q)⟩
theorem iM {tg iter : Expr} {f : LF} (h : PI X tg iter (tIP X.K Γ f)) : PI X tg iter (tI X.K Γ Γ (lmOf f)) := h.imp fun σ H R ⟨δ, Z, F, ds, δ', ok, e, k⟩ => by
  obtain ⟨ds', e1, e2⟩ := Option.map_eq_some_iff.mp e
  cases e2
  exact ⟨δ, Z, F, _, ok, e1, fun J H' Z' s w => k J H' Z' F s.stp (ok.ext s) w⟩
theorem Lat.refl : Lat H Z H Z := ⟨[], [], Ext.refl, Mu.nil, (fun _ q => nomatch q)⟩
theorem Lat.sh {v : V} {d : D} (l : Lat H Z H2 Z2) (h : Sh K H Z v d) : Sh K H2 Z2 v d := let ⟨_, _, s, m, z⟩ := l; h.step s m z
theorem Lat.shA {v : List V} {d : List D} (l : Lat H Z H2 Z2) (h : ShA K H Z v d) : ShA K H2 Z2 v d := let ⟨_, _, s, m, z⟩ := l; h.step s m z
theorem Lat.fzl {a : Addr} {xs : List V} (l : Lat H Z H2 Z2) (z : FzL K H Z a xs) : SqL K H2 a xs := let ⟨_, _, s, m, dz⟩ := l; (z.step s dz).sql
theorem Lat.sqT {a : Addr} {xs : List V} (l : Lat H Z H2 Z2) (h : SqT K H a xs) : SqT K H2 a xs := let ⟨_, _, s, m, dz⟩ := l; SqT.keep (fun o q n => s.keep _ o q (Mu.not m q n)) h
theorem Ok.lat (o : Ok K Γ σ δ H Z F) (s : Stp H Z F H2 Z2 F2) : Lat H Z H2 Z2 := ⟨F, F2, s, o.mu, o.dz⟩

/-! ### what is walked -/
def asSeq : D → Option (List D)
  | .tuple ds => some ds
  | .list ds => some ds
  | _ => none
def lSeq (f : EF) : LF := fun δ => (f δ).bind asSeq
def lSeqM (f : EM) : LM := fun δ => (f δ).bind fun p => (asSeq p.1).map (·, p.2)
theorem wks_list {a : Addr} {xs : List V} {ds : List D} (z : FzL K H Z a xs) (r : ShA K H Z xs ds) : Wks K (Itl K a) ds H Z := by
  refine ⟨fun H => SqL K H a xs, YAt xs, by rw [← r.len]; exact walk_list, fun H2 Z2 l => l.fzl z, fun i H2 Z2 x H3 d l y e => ?_⟩
  obtain ⟨rfl, hx⟩ := y
  obtain ⟨v, hv, hs⟩ := (l.shA r).get e
  rw [hx] at hv
  cases hv
  exact ⟨Z2, .refl, hs⟩
theorem wks_tup {a : Addr} {xs : List V} {ds : List D} (h : SqT K H a xs) (r : ShA K H Z xs ds) : Wks K (Itt K a) ds H Z := by
  refine ⟨fun H => SqT K H a xs, YAt xs, by rw [← r.len]; exact walk_tup, fun H2 Z2 l => l.sqT h, fun i H2 Z2 x H3 d l y e => ?_⟩
  obtain ⟨rfl, hx⟩ := y
  obtain ⟨v, hv, hs⟩ := (l.shA r).get e
  rw [hx] at hv
  cases hv
  exact ⟨Z2, .refl, hs⟩
theorem iSeqM {tg e : Expr} {f : EM} (h : PE X e (tM X.K Γ Γ' .sh f)) : PI X tg e (tI X.K Γ Γ' (lSeqM f)) := ((pi_list h).or (pi_tup h)).imp fun σ H R ⟨δ, Z, F, ds, δ', ok, e, k⟩ => by
  obtain ⟨⟨d, δ1⟩, e1, e2⟩ := Option.bind_eq_some_iff.mp e
  obtain ⟨ds', e3, e4⟩ := Option.map_eq_some_iff.mp e2
  cases e4
  cases d with
  | list es =>
    cases e3
    refine .inl ⟨δ, Z, F, .list _, δ1, ok, e1, fun v H1 Z1 F1 g s1 ok1 r1 nd1 dz1 => ?_⟩
    obtain ⟨r, rfl⟩ := r1.shOf
    cases r with
    | lst z r => exact ⟨_, rfl, ⟨_, z.sql⟩, k _ H1 Z1 F1 (by simpa using s1) ok1 (wks_list z r)⟩
  | tuple es =>
    cases e3
    refine .inr ⟨δ, Z, F, .tuple _, δ1, ok, e1, fun v H1 Z1 F1 g s1 ok1 r1 nd1 dz1 => ?_⟩
    obtain ⟨r, rfl⟩ := r1.shOf
    cases r with
    | tup h r => exact ⟨_, rfl, ⟨_, SqT.of h⟩, k _ H1 Z1 F1 (by simpa using s1) ok1 (wks_tup (SqT.of h) r)⟩
  | _ => cases e3
theorem iSeq {tg e : Expr} {f : EF} (h : PE X e (tP X.K Γ .sh f)) : PI X tg e (tIP X.K Γ (lSeq f)) := ((pi_list h).or (pi_tup h)).imp fun σ H R ⟨δ, Z, F, ds, ok, e, k⟩ => by
  obtain ⟨d, e1, e3⟩ := Option.bind_eq_some_iff.mp e
  cases d with
  | list es =>
    cases e3
    refine .inl ⟨δ, Z, F, .list _, ok, e1, fun v H1 Z1 g s1 r1 => ?_⟩
    obtain ⟨r, rfl⟩ := r1.shOf
    cases r with
    | lst z r => exact ⟨_, rfl, ⟨_, z.sql⟩, k _ H1 Z1 s1 (wks_list z r)⟩
  | tuple es =>
    cases e3
    refine .inr ⟨δ, Z, F, .tuple _, ok, e1, fun v H1 Z1 g s1 r1 => ?_⟩
    obtain ⟨r, rfl⟩ := r1.shOf
    cases r with
    | tup h r => exact ⟨_, rfl, ⟨_, SqT.of h⟩, k _ H1 Z1 s1 (wks_tup (SqT.of h) r)⟩
  | _ => cases e3
def rngD (lo : Int) (n : Nat) : List D := (List.range n).map fun (k : Nat) => .int (lo + (k : Int))
theorem wks_rng {lo : Int} {n : Nat} : Wks K (Itr lo n) (rngD lo n) H Z := by
  refine ⟨fun _ => True, YFn fun i => .int (lo + i), by rw [show (rngD lo n).length = n by simp [rngD]]; exact walk_range, fun _ _ _ => trivial, fun i H2 Z2 x H3 d l y e => ?_⟩
  obtain ⟨rfl, rfl⟩ := y
  unfold rngD at e
  rw [List.getElem?_map, Option.map_eq_some_iff] at e
  obtain ⟨k, ek, rfl⟩ := e
  obtain ⟨_, ek⟩ := List.getElem?_eq_some_iff.mp ek
  have : i = k := by simpa using ek
  subst this
  exact ⟨Z2, .refl, .int _⟩
def rng1 : List D → Option (List D)
  | [.int j] => if -(2 ^ 62) ≤ j ∧ j < 2 ^ 62 then some (rngD 0 j.toNat) else none
  | _ => none
def rng2 : List D → Option (List D)
  | [.int i, .int j] => if (-(2 ^ 62) ≤ i ∧ i < 2 ^ 62) ∧ (-(2 ^ 62) ≤ j ∧ j < 2 ^ 62) then some (rngD i (j - i).toNat) else none
  | _ => none
def lOf (o : List D → Option (List D)) (f : LF) : LF := fun δ => (f δ).bind o
def lOfM (o : List D → Option (List D)) (f : LM) : LM := fun δ => (f δ).bind fun p => (o p.1).map (·, p.2)
theorem Env.one {v : V} {d : D} {g : List Addr} (h : Env K H Z [.sh] [some v] [d] g) : Sh K H Z v d := by
  cases h with
  | cons r _ => exact r.shOf.1
theorem Env.two {v w : V} {d e : D} {g : List Addr} (h : Env K H Z [.sh, .sh] [some v, some w] [d, e] g) : Sh K H Z v d ∧ Sh K H Z w e := by
  cases h with
  | cons r h => exact ⟨r.shOf.1, h.one⟩
theorem vs1 {vs : List V} {d : D} {g : List Addr} (h : Env K H Z [.sh] (vs.map some) [d] g) : ∃ v, vs = [v] ∧ Sh K H Z v d := by
  have l := h.len.1
  match vs, l, h with
  | [v], _, h => exact ⟨v, rfl, h.one⟩
theorem vs2 {vs : List V} {d e : D} {g : List Addr} (h : Env K H Z [.sh, .sh] (vs.map some) [d, e] g) : ∃ v w, vs = [v, w] ∧ Sh K H Z v d ∧ Sh K H Z w e := by
  have l := h.len.1
  match vs, l, h with
  | [v, w], _, h => exact ⟨v, w, rfl, h.two⟩
theorem iRng1 {tg : Expr} {a : Expr} {f : LF} {p pos : Pos} (hg : Gl X "range") (hm : X.mg "range" = none) (ha : PA X [a] (aP X.K Γ [.sh] f)) (hs : starEach [a] X.env = [(false, eval a X.env)] := by rfl) :
    PI X tg (.Call (.Name "range" p) [a] [] pos) (tIP X.K Γ (lOf rng1 f)) := (pi_range1 hg hm ha hs).imp fun σ H R ⟨δ, Z, F, ds, ok, e, k⟩ => by
  obtain ⟨as, e3, e4⟩ := Option.bind_eq_some_iff.mp e
  unfold rng1 at e4
  split at e4
  · split at e4
    · rename_i j hj
      cases e4
      refine ⟨δ, Z, F, _, ok, e3, fun vs H1 Z1 g s1 r1 => ?_⟩
      obtain ⟨v, rfl, sv⟩ := vs1 r1
      have := sv.intOf
      subst this
      exact ⟨j, rfl, hj.1, hj.2, k _ H1 Z1 s1 wks_rng⟩
    · cases e4
  · cases e4
theorem iRng2 {tg : Expr} {a b : Expr} {f : LF} {p pos : Pos} (hg : Gl X "range") (hm : X.mg "range" = none) (ha : PA X [a, b] (aP X.K Γ [.sh, .sh] f)) (hs : starEach [a, b] X.env = [(false, eval a X.env), (false, eval b X.env)] := by rfl) (hs2 : starEach [b] X.env = [(false, eval b X.env)] := by rfl) :
    PI X tg (.Call (.Name "range" p) [a, b] [] pos) (tIP X.K Γ (lOf rng2 f)) := (pi_range2 hg hm ha hs hs2).imp fun σ H R ⟨δ, Z, F, ds, ok, e, k⟩ => by
  obtain ⟨as, e3, e4⟩ := Option.bind_eq_some_iff.mp e
  unfold rng2 at e4
  split at e4
  · split at e4
    · rename_i i j hj
      cases e4
      refine ⟨δ, Z, F, _, ok, e3, fun vs H1 Z1 g s1 r1 => ?_⟩
      obtain ⟨v, w, rfl, sv, sw⟩ := vs2 r1
      have := sv.intOf
      subst this
      have := sw.intOf
      subst this
      exact ⟨i, j, rfl, ⟨hj.1.1, hj.1.2, hj.2.1, hj.2.2⟩, k _ H1 Z1 s1 wks_rng⟩
    · cases e4
  · cases e4
/-- range(n), n changing something -/
theorem iRng1M {tg : Expr} {a : Expr} {f : LM} {gb : List (Option Nat)} {p pos : Pos} (hg : Gl X "range") (hm : X.mg "range" = none) (ha : PA X [a] (aM X.K Γ Γ' [.sh] gb f)) (hs : starEach [a] X.env = [(false, eval a X.env)] := by rfl) :
    PI X tg (.Call (.Name "range" p) [a] [] pos) (tI X.K Γ Γ' (lOfM rng1 f)) := (pi_range1 hg hm ha hs).imp fun σ H R ⟨δ, Z, F, ds, δ', ok, e, k⟩ => by
  obtain ⟨⟨as, δ1⟩, e3, e1⟩ := Option.bind_eq_some_iff.mp e
  obtain ⟨ds', e4, e2⟩ := Option.map_eq_some_iff.mp e1
  cases e2
  replace e4 : rng1 as = some ds := e4
  unfold rng1 at e4
  split at e4
  · split at e4
    · rename_i j hj
      cases e4
      refine ⟨δ, Z, F, _, _, ok, e3, fun vs H1 Z1 F1 g s1 ok1 r1 nd1 dz1 gv => ?_⟩
      obtain ⟨v, rfl, sv⟩ := vs1 r1
      have := sv.intOf
      subst this
      exact ⟨j, rfl, hj.1, hj.2, k _ H1 Z1 F1 (s1.sub fun a h => List.mem_append_left _ h) ok1 wks_rng⟩
    · cases e4
  · cases e4
def enumD (k : Nat) : List D → List D
  | [] => []
  | d :: ds => .tuple [.int k, d] :: enumD (k + 1) ds
theorem enumD_len : ∀ (k : Nat) (ds : List D), (enumD k ds).length = ds.length
  | _, [] => rfl
  | k, _ :: ds => by simp [enumD, enumD_len (k + 1) ds]
theorem enumD_get : ∀ (ds : List D) (k i : Nat) (e : D), (enumD k ds)[i]? = some e → ∃ d, ds[i]? = some d ∧ e = .tuple [.int ((k + i : Nat) : Int), d]
  | [], _, _, _, h => by simp [enumD] at h
  | d :: ds, k, 0, e, h => by simp [enumD] at h; exact ⟨d, rfl, by rw [← h]; simp⟩
  | d :: ds, k, i + 1, e, h => by
    obtain ⟨d', h1, h2⟩ := enumD_get ds (k + 1) i e (by simpa [enumD] using h)
    exact ⟨d', by simpa using h1, by rw [h2, show k + 1 + i = k + (i + 1) by omega]⟩
theorem wks_pair {J : It} {xs : List V} {ds : List D} {G : Hp → Prop} (w : Walk J ds.length G (YPair (fun i => some (.int (i : Nat))) (fun i => xs[i]?))) (hG : ∀ H2 Z2, Lat H Z H2 Z2 → G H2) (r : ShA K H Z xs ds) : Wks K J (enumD 0 ds) H Z := by
  refine ⟨G, _, by rw [enumD_len]; exact w, hG, fun i H2 Z2 x H3 e l y he => ?_⟩
  obtain ⟨d, hd, rfl⟩ := enumD_get _ _ _ _ he
  obtain ⟨T, x1, x2, rfl, nT, rfl, e1, e2⟩ := y
  obtain ⟨v, hv, hs⟩ := (l.shA r).get hd
  have e2' : xs[i]? = some x2 := e2
  rw [hv] at e2'
  cases e2'
  cases e1
  refine ⟨Z2, Ext.new nT, .tup upd_same (.cons ?_ (.cons (hs.ext (Ext.new nT)) .nil))⟩
  rw [Nat.zero_add]
  exact .int _
def lEnum (f : LF) : LF := fun δ => (f δ).bind fun ds => match ds with | [d] => (asSeq d).map (enumD 0) | _ => none
theorem iEnum {a : Expr} {f : LF} {p pos tpos : Pos} {elts : List Expr} {kk : Nat} (hg : Gl X "enumerate") (hm : X.mg "enumerate" = none) (ha : PA X [a] (aP X.K Γ [.sh] f)) (hs : starEach [a] X.env = [(false, eval a X.env)] := by rfl) :
    PI X (.Tuple elts kk tpos) (.Call (.Name "enumerate" p) [a] [] pos) (tIP X.K Γ (lEnum f)) := ((pi_enum hg hm ha hs).or (pi_enumT hg hm ha hs)).imp fun σ H R ⟨δ, Z, F, ds, ok, e, k⟩ => by
  obtain ⟨as, e3, e4⟩ := Option.bind_eq_some_iff.mp e
  split at e4
  · rename_i d
    obtain ⟨es, e5, e6⟩ := Option.map_eq_some_iff.mp e4
    cases e6
    cases d with
    | list es' =>
      cases e5
      refine .inl ⟨δ, Z, F, _, ok, e3, fun vs H1 Z1 g s1 r1 => ?_⟩
      obtain ⟨v, rfl, sv⟩ := vs1 r1
      cases sv with
      | lst z r => exact ⟨_, _, rfl, z.sql, k _ H1 Z1 s1 (wks_pair (by rw [← r.len]; exact walk_enum) (fun H2 Z2 l => l.fzl z) r)⟩
    | tuple es' =>
      cases e5
      refine .inr ⟨δ, Z, F, _, ok, e3, fun vs H1 Z1 g s1 r1 => ?_⟩
      obtain ⟨v, rfl, sv⟩ := vs1 r1
      cases sv with
      | tup h r => exact ⟨_, _, rfl, SqT.of h, k _ H1 Z1 s1 (wks_pair (by rw [← r.len]; exact walk_enumT) (fun H2 Z2 l => l.sqT (SqT.of h)) r)⟩
    | _ => cases e5
  · cases e4

/-! ### targets -/
def gSet (i : Nat) : D → List D → Option (List D) := fun d δ => some (δ.set i d)
def gSets : List Nat → List D → List D → Option (List D)
  | [], [], δ => some δ
  | i :: is, d :: ds, δ => gSets is ds (δ.set i d)
  | _, _, _ => none
def gTupD (is : List Nat) : D → List D → Option (List D) := fun d δ => match d with | .tuple ds => gSets is ds δ | _ => none
def setsT : List Nat → List T → List T
  | [], Γ => Γ
  | i :: is, Γ => setsT is (Γ.set i .sh)
theorem hName {i : Nat} {x : Str} {pos : Pos} (hN : X.N.Nodup) (hi : X.N[i]? = some x) (hx : Loc X.env.scope x) (hl : i < Γ.length) (hf : X.fn x = true ∨ X.env.scope.names.lookup x = some .local := by first | exact .inl rfl | exact .inr rfl | assumption) :
    PG X (.Name x pos) (tG X.K Γ (Γ.set i .sh) [i] (gSet i)) := (pg_name hN hi hx hf).imp fun v σ H Q ⟨δ, Z, F, d, δ1, ok, sv, e, k⟩ => by
  cases e
  obtain ⟨F', o, sb⟩ := ok.set hl (.sh sv) (by simpa using ok.nd) (fun _ q => nomatch q)
  exact k _ F' o (fun a h => by simpa using sb a h) (by simp) fun j hj => by rw [List.getElem?_set_ne (fun z => hj (by simp [z]))]
def tGs (K : PySem.W.Frag) (Γ Γ1 : List T) (is : List Nat) : TGs := fun vs σ H Q => ∃ δ Z F ds δ1, Ok K Γ σ δ H Z F ∧ ShA K H Z vs ds ∧ gSets is ds δ = some δ1 ∧
  ∀ σ1 F1, Ok K Γ1 σ1 δ1 H Z F1 → (∀ a ∈ F1, a ∈ F) → σ1.length = σ.length → (∀ j, j ∉ is → σ1[j]? = σ[j]?) → Q σ1 H
theorem _root_.L2.PGs.imp {ts : List Expr} {t t' : TGs} (h : PGs X ts t) (i : ∀ v σ H Q, t' v σ H Q → t v σ H Q) : PGs X ts t' := ⟨fun pins s σ H v u Q I r q => h.run pins s σ H v u Q I r (i _ _ _ _ q)⟩
theorem hNil : PGs X [] (tGs X.K Γ Γ []) := pgs_nil.imp fun vs σ H Q ⟨δ, Z, F, ds, δ1, ok, sv, e, k⟩ => by
  cases ds with
  | nil => cases sv; cases e; exact ⟨rfl, k σ F ok (fun _ h => h) rfl fun _ _ => rfl⟩
  | cons d ds => cases e
theorem hCons {i : Nat} {is : List Nat} {t : Expr} {ts : List Expr} (h1 : PG X t (tG X.K Γ (Γ.set i .sh) [i] (gSet i))) (h2 : PGs X ts (tGs X.K (Γ.set i .sh) Γ2 is))
    (hs : (assignEach (t :: ts) X.env).map (·.2) = assign t X.env :: (assignEach ts X.env).map (·.2) := by rfl) : PGs X (t :: ts) (tGs X.K Γ Γ2 (i :: is)) := (pgs_cons h1 h2 hs).imp fun vs σ H Q ⟨δ, Z, F, ds, δ1, ok, sv, e, k⟩ => by
  cases ds with
  | nil => cases e
  | cons d ds =>
    cases sv with
    | cons h r => exact ⟨_, _, rfl, δ, Z, F, d, _, ok, h, rfl, fun σ1 F1 ok1 sb1 l1 j1 => ⟨_, Z, F1, ds, δ1, ok1, r, e, fun σ2 F2 ok2 sb2 l2 j2 =>
        k σ2 F2 ok2 (fun a h => sb1 a (sb2 a h)) (l2.trans l1) fun j hj => (j2 j fun z => hj (List.mem_cons_of_mem _ z)).trans (j1 j fun z => hj (by simp only [List.mem_singleton] at z; simp [z]))⟩⟩
theorem hTup {es : List Expr} {k : Nat} {is : List Nat} {pos : Pos} (hc : X.calm = true) (h : PGs X es (tGs X.K Γ Γ2 is)) (hn : (assignEach es X.env).length = is.length := by rfl) (hst : (assignEach es X.env).findIdx? (·.1) = none := by rfl) :
    PG X (.Tuple es k pos) (tG X.K Γ Γ2 is (gTupD is)) := (pg_tup hc h hn hst).imp fun v σ H Q ⟨δ, Z, F, d, δ1, ok, sv, e, k⟩ => by
  unfold gTupD at e
  split at e
  · cases sv with
    | tup hs r =>
      refine ⟨_, _, rfl, SqT.of hs, ?_, δ, Z, F, _, δ1, ok, r, e, k⟩
      have : ∀ (is : List Nat) (ds : List D) (δ δ1 : List D), gSets is ds δ = some δ1 → ds.length = is.length := by
        intro is
        induction is with
        | nil => intro ds δ δ1 h; cases ds with | nil => rfl | cons => cases h
        | cons i is ih => intro ds δ δ1 h; cases ds with | nil => cases h | cons d ds => simp [ih _ _ _ h]
      rw [r.len]
      exact this _ _ _ _ e
  · cases e

/-! ### for -/
def forL (tg : D → List D → Option (List D)) (b : SF) : List D → List D → Option Out
  | [], δ => some (.nx δ)
  | x :: xs, δ => (tg x δ).bind fun δ1 => (b δ1).bind fun o => match o with
    | .nx δ' => forL tg b xs δ'
    | .ct δ' => forL tg b xs δ'
    | .bk δ' => some (.nx δ')
    | .rt d δ' => some (.rt d δ')
def sFor (src : LF) (tg : D → List D → Option (List D)) (b : SF) : SF := fun δ => (src δ).bind fun ds => forL tg b ds δ
def sForM (src : LM) (tg : D → List D → Option (List D)) (b : SF) : SF := fun δ => (src δ).bind fun p => forL tg b p.1 p.2
def noIx (r : List T) (ix : List Nat) : Bool := ix.all fun i => isNo r i
theorem fix_ix {r : List T} {ix : List Nat} (h : noIx r ix = true) (hj : ∀ j, j ∉ ix → σ1[j]? = σ[j]?) : Fix r σ σ1 := fun i t hi n => hj i fun z => by
  have := List.all_eq_true.mp h i z
  unfold isNo at this
  rw [hi] at this
  exact n (by simpa using this)
theorem sForM_of {iter tg : Expr} {body : List Stmt} {pos : Pos} {ix : List Nat} {src : LM} {tgf : D → List D → Option (List D)} {b : SF} (hp : PassesOwn (model X.prog X.w) X.A X.env X.xe) (hc : X.calm = true) (hi : PI X tg iter (tI X.K Γ Γ' src)) (hg : PG X tg (tG X.K Γ' Γ1 ix tgf))
    (hb : PSs X body (tS X.K Γ1 ⟨Γ', Γ', Γ', er, et⟩ b)) (hr : noIx er ix = true) (hs : ∀ x, foldedSetIterable iter X.env x = pure x := by intro _; rfl) : PS X (.For tg iter body [] pos) (tS X.K Γ ⟨Γ', eb, ec, er, et⟩ (sForM src tgf b)) :=
  (ps_for hp hc hi hg hb hs).imp fun W σ H ⟨δ, Z, F, out, ok, e, p⟩ => by
  obtain ⟨⟨ds, δ0⟩, e1, e2⟩ := Option.bind_eq_some_iff.mp e
  refine ⟨δ, Z, F, ds, δ0, ok, e1, fun J H0 Z0 F0 s0 ok0 wk => ?_⟩
  obtain ⟨G, Y, walk, hG, hY⟩ := wk
  refine for_it walk (fun i σi Hi => ∃ δi Zi Fi, Ok X.K Γ' σi δi Hi Zi Fi ∧ forL tgf b (ds.drop i) δi = some out ∧ Stp H0 Z0 F0 Hi Zi Fi ∧ Fix er σ σi) ⟨δ0, Z0, F0, ok0, e2, .refl, .refl _ _⟩ ?_ ?_ ?_
  · rintro i σi Hi hi ⟨δi, Zi, Fi, oki, ei, si, fi⟩
    exact hG Hi Zi (ok0.lat si)
  · rintro i x σi Hi H3 hi ⟨δi, Zi, Fi, oki, ei, si, fi⟩ y
    obtain ⟨d, hd⟩ : ∃ d, ds[i]? = some d := ⟨ds[i], by simp [hi]⟩
    obtain ⟨Z3, s3, sx⟩ := hY i Hi Zi x H3 d (ok0.lat si) y hd
    have hdr : ds.drop i = d :: ds.drop (i + 1) := by
      rw [List.drop_eq_getElem_cons hi]
      have : ds[i] = d := by simpa [hi] using hd
      rw [this]
    rw [hdr] at ei
    obtain ⟨δ1, e3, e4⟩ := Option.bind_eq_some_iff.mp ei
    obtain ⟨o, e5, e6⟩ := Option.bind_eq_some_iff.mp e4
    refine ⟨δi, Z3, Fi, d, δ1, oki.ext s3, sx, e3, fun σ1 F1 ok1 sb1 l1 j1 => ⟨δ1, Z3, F1, o, ok1, e5, ?_⟩⟩
    have s4 : Stp H0 Z0 F0 H3 Z3 F1 := (si.trans s3.stp).sub sb1
    have f1 : Fix er σ σ1 := fi.trans (fix_ix hr j1)
    cases o with
    | nx δ' => exact fun σ' H' Z' F' s' o' fx => ⟨δ', Z', F', o', e6, s4.trans s', f1.trans fx⟩
    | ct δ' => exact fun σ' H' Z' F' s' o' fx => ⟨δ', Z', F', o', e6, s4.trans s', f1.trans fx⟩
    | bk δ' => cases e6; exact fun σ' H' Z' F' s' o' fx => p σ' H' Z' F' (s0.trans (s4.trans s')) o' (f1.trans fx)
    | rt d δ' => cases e6; exact fun v σ' H' Z' F' g s' o' fx r nd dz => p v σ' H' Z' F' g (s0.trans (s4.trans s')) o' (f1.trans fx) r nd dz
  · rintro σi Hi ⟨δi, Zi, Fi, oki, ei, si, fi⟩
    rw [List.drop_length] at ei
    cases ei
    exact p σi Hi Zi Fi (s0.trans si) oki fi
theorem sFor_eq (src : LF) (tg : D → List D → Option (List D)) (b : SF) : sFor src tg b = sForM (lmOf src) tg b := by
  funext δ
  unfold sFor sForM lmOf
  cases src δ <;> rfl
theorem zForM {iter tg : Expr} {body : List Stmt} {pos : Pos} {ix : List Nat} {src : LM} {tgf : D → List D → Option (List D)} {b : SF} (hp : PassesOwn (model X.prog X.w) X.A X.env X.xe) (hc : X.calm = true) (hi : PI X tg iter (tI X.K Γ Γ' src)) (hg : PG X tg (tG X.K Γ' Γ1 ix tgf))
    (hb : PSs X body (tS X.K Γ1 ⟨Γ', Γ', Γ', er, et⟩ b)) (hr : noIx er ix = true) (hs : ∀ x, foldedSetIterable iter X.env x = pure x := by intro _; rfl) : PS X (.For tg iter body [] pos) (tS X.K Γ ⟨Γ', eb, ec, er, et⟩ (sForM src tgf b)) := sForM_of hp hc hi hg hb hr hs
theorem zFor {iter tg : Expr} {body : List Stmt} {pos : Pos} {ix : List Nat} {src : LF} {tgf : D → List D → Option (List D)} {b : SF} (hp : PassesOwn (model X.prog X.w) X.A X.env X.xe) (hc : X.calm = true) (hi : PI X tg iter (tIP X.K Γ src)) (hg : PG X tg (tG X.K Γ Γ1 ix tgf))
    (hb : PSs X body (tS X.K Γ1 ⟨Γ, Γ, Γ, er, et⟩ b)) (hr : noIx er ix = true) (hs : ∀ x, foldedSetIterable iter X.env x = pure x := by intro _; rfl) : PS X (.For tg iter body [] pos) (tS X.K Γ ⟨Γ, eb, ec, er, et⟩ (sFor src tgf b)) := by
  rw [sFor_eq]; exact sForM_of hp hc (iM hi) hg hb hr hs
end
end Pv

set_option Elab.async false
set_option linter.all false
set_option maxRecDepth 100000
/-! Pv9: list comprehensions. -/
namespace Pv
open PySem PySem.Spec PyProof.Rows L2
def cmpM (tg : D → List D → Option (List D)) (c : BM) (e : EM) : List D → List D → Option (List D × List D)
  | [], δ => some ([], δ)
  | x :: xs, δ => (tg x δ).bind fun δ1 => (c δ1).bind fun p => if p.1 then (e p.2).bind fun q => (cmpM tg c e xs q.2).bind fun r => some (q.1 :: r.1, r.2) else cmpM tg c e xs p.2
def xCmpM (src : LM) (tg : D → List D → Option (List D)) (c : BM) (e : EM) : EM := fun δ => (src δ).bind fun p => if p.1.length ≤ sizeLine then (cmpM tg c e p.1 p.2).map fun r => (.list r.1, r.2) else none
def cmpP (tg : D → List D → Option (List D)) (c : BF) (e : EF) (δ : List D) : List D → Option (List D)
  | [] => some []
  | x :: xs => (tg x δ).bind fun δ1 => (c δ1).bind fun b => if b then (e δ1).bind fun y => (cmpP tg c e δ xs).bind fun r => some (y :: r) else cmpP tg c e δ xs
def xCmp (src : LF) (tg : D → List D → Option (List D)) (c : BF) (e : EF) : EF := fun δ => (src δ).bind fun ds => if ds.length ≤ sizeLine then (cmpP tg c e δ ds).map .list else none
def bYes : BF := fun _ => some true
section
variable {K : PySem.W.Frag} {X : Cx} {Γ Γ' Γ1 Γ2 Γ3 : List T} {H H' H1 H2 H3 : Hp} {Z Z' Z1 Z2 Z3 : FzT} {F F' F1 F2 : List Addr} {σ σ' σ1 : L2.St} {δ δ' : List D} {E : TyE} {en eb ec er : List T} {et : T} {W W' : Ends}
theorem _root_.L2.PTs.imp {ifs : List Expr} {t t' : TT} (h : PTs X ifs t) (i : ∀ σ H Q, t' σ H Q → t σ H Q) : PTs X ifs t' := ⟨fun pins s σ H Q I q => h.run pins s σ H Q I (i _ _ _ q)⟩
theorem kNil : PTs X [] (bP X.K Γ bYes) := pts_nil.imp fun σ H Q ⟨δ, Z, F, b, ok, e, k⟩ => by cases e; exact k H Z .refl
theorem kOne {c : Expr} {f : BF} (h : PT X c (bP X.K Γ f)) : PTs X [c] (bP X.K Γ f) := pts_one h
theorem kNilM : PTs X [] (bM X.K Γ Γ (bMOf bYes)) := pts_nil.imp fun σ H Q ⟨δ, Z, F, b, δ', ok, e, k⟩ => by cases e; exact k H Z F .refl ok
theorem kOneM {c : Expr} {f : BM} (h : PT X c (bM X.K Γ Γ' f)) : PTs X [c] (bM X.K Γ Γ' f) := pts_one h
theorem Env.agree : ∀ {Γ : List T} {σ σ' : L2.St} {δ : List D} {F : List Addr}, Env K H Z Γ σ δ F → σ'.length = σ.length → (∀ (i : Nat) (t : T), Γ[i]? = some t → t ≠ .no → σ'[i]? = σ[i]?) → Env K H Z Γ σ' δ F
  | _, _, [], _, _, .nil, _, _ => .nil
  | _, _, _ :: _, _, _, .nil, l, _ => by simp at l
  | _, _, [], _, _, .no _, l, _ => by simp at l
  | _, _, [], _, _, .cons _ _, l, _ => by simp at l
  | _, _, v :: σ', _, _, .no r, l, h => .no (Env.agree r (by simpa using l) fun i t hi n => by simpa using h (i + 1) t (by simpa using hi) n)
  | t :: _, _, v :: σ', _, _, .cons q r, l, h => by
    have ih := Env.agree r (σ' := σ') (by simpa using l) fun i t hi n => by simpa using h (i + 1) t (by simpa using hi) n
    by_cases hn : t = .no
    · subst hn
      cases q
      exact .no ih
    · have e := h 0 t rfl hn
      rw [List.getElem?_cons_zero, List.getElem?_cons_zero] at e
      cases e
      exact .cons q ih
theorem Ok.agree (o : Ok K Γ σ δ H Z F) (hl : σ'.length = σ.length) (h : ∀ (i : Nat) (t : T), Γ[i]? = some t → t ≠ .no → σ'[i]? = σ[i]?) : Ok K Γ σ' δ H Z F := ⟨o.env.agree hl h, o.nd, o.dz, o.zs⟩
theorem wipe_in : ∀ {vs : List Nat} {σ : L2.St} {j : Nat}, j ∈ vs → j < σ.length → (wipe σ vs)[j]? = some none
  | [], _, _, h, _ => nomatch h
  | v :: vs, σ, j, h, l => by
    unfold wipe
    by_cases e : v = j
    · subst e
      rw [List.getElem?_set_self (by rw [wipe_length]; exact l)]
    · rw [List.getElem?_set_ne e]
      exact wipe_in ((List.mem_cons.mp h).resolve_left (Ne.symm e)) l
theorem wipe_eq {vs : List Nat} (hl : σ1.length = σ.length) (h : ∀ j, j ∉ vs → σ1[j]? = (wipe σ vs)[j]?) : wipe σ1 vs = wipe σ vs := by
  refine List.ext_getElem? fun j => ?_
  by_cases hj : j ∈ vs
  · by_cases l : j < σ.length
    · rw [wipe_in hj l, wipe_in hj (by omega)]
    · rw [List.getElem?_eq_none (by rw [wipe_length]; omega), List.getElem?_eq_none (by rw [wipe_length]; omega)]
  · rw [wipe_out hj, h j hj]
theorem no_at {r : List T} {ix : List Nat} (h : noIx r ix = true) {i : Nat} {t : T} (hi : r[i]? = some t) (n : t ≠ .no) : i ∉ ix := fun z => by
  have := List.all_eq_true.mp h i z
  unfold isNo at this
  rw [hi] at this
  exact n (by simpa using this)
theorem Ext.updNew {a : Addr} {o : HO} (s : Ext H Z H' Z') (h : H a = none) : Ext H Z (upd H' a o) Z' :=
  ⟨fun x u q n => by rw [upd_ne (ne_of_none q h)]; exact s.keep x u q n, s.mono, fun _ q => (nomatch q), s.frz, fun x q => upd_live (s.live x q), fun x q => (s.zs x q).imp id fun z => upd_live z⟩
theorem lcC {t : T} {vs : List Nat} {src : LF} {tgf : D → List D → Option (List D)} {c : BF} {f : EF} (hno : noIx Γ vs = true) : ∀ (σ : L2.St) (H : Hp) (Q : VK), tC K Γ (.ol t) (xCmp src tgf c f) σ H Q → tLc (tIP K Γ src) (tG K Γ Γ1 vs tgf) (bP K Γ1 c) (tC K Γ1 t f) vs σ H Q := fun σ H Q ⟨δ, Z, F, d, ok, e, k⟩ => by
  obtain ⟨ds, e1, e2⟩ := Option.bind_eq_some_iff.mp e
  split at e2
  · rename_i hsz
    obtain ⟨fin, e3, e4⟩ := Option.map_eq_some_iff.mp e2
    cases e4
    refine ⟨δ, Z, F, ds, ok, e1, fun J H0 Z0 s0 wk D hD => ?_⟩
    obtain ⟨G, Y, walk, hG, hY⟩ := wk
    have ok0 := ok.ext s0
    have hDn : D ∉ F := fun z => ok0.live z hD
    refine lc_it walk (fun i Hi => ∃ Zi acc accD g rest, Ext H0 Z0 Hi Zi ∧ Hi D = some (.lst acc) ∧ RepA K Hi Zi t acc accD g ∧ (D :: g).Nodup ∧ (∀ a ∈ D :: g, H0 a = none ∧ ¬ Zi a) ∧ acc.length ≤ i ∧ cmpP tgf c f δ (ds.drop i) = some rest ∧ accD ++ rest = fin)
      ⟨Z0, [], [], [], fin, Ext.new hD, upd_same, .nil, by simp, fun a ha => ?_, Nat.le_refl _, e3, rfl⟩ ?_ ?_ ?_
    · have ea : a = D := by simpa using ha
      subst ea
      exact ⟨hD, fun hz => ok0.zs a hz hD⟩
    · rintro i Hi hi ⟨Zi, acc, accD, g, rest, si, _⟩
      exact hG Hi Zi ⟨[], [], si, Mu.nil, (fun _ q => nomatch q)⟩
    · rintro i x Hi H3 hi ⟨Zi, acc, accD, g, rest, si, hDi, ra, nd, dz, hl, er, ea⟩ y
      obtain ⟨d, hd⟩ : ∃ d, ds[i]? = some d := ⟨ds[i], by simp [hi]⟩
      obtain ⟨Z3, s3, sx⟩ := hY i Hi Zi x H3 d ⟨[], [], si, Mu.nil, (fun _ q => nomatch q)⟩ y hd
      have hdr : ds.drop i = d :: ds.drop (i + 1) := by
        rw [List.drop_eq_getElem_cons hi]
        have : ds[i] = d := by simpa [hi] using hd
        rw [this]
      rw [hdr] at er
      obtain ⟨δ1, e5, e6⟩ := Option.bind_eq_some_iff.mp er
      obtain ⟨b, e7, e8⟩ := Option.bind_eq_some_iff.mp e6
      have okw : Ok K Γ (wipe σ vs) δ H3 Z3 F := (ok0.ext (si.trans s3)).agree (wipe_length _ _) fun i t hi n => wipe_out (no_at hno hi n)
      refine ⟨δ, Z3, F, d, δ1, okw, sx, e5, fun σ1 F1 ok1 sb1 l1 j1 => ⟨wipe_eq (l1.trans (wipe_length _ _)) j1, δ1, Z3, F1, b, ok1, e7, fun H4 Z4 s4 => ?_⟩⟩
      cases b with
      | true =>
        rw [if_pos rfl] at e8
        refine iteT ?_
        obtain ⟨yd, e9, e10⟩ := Option.bind_eq_some_iff.mp e8
        obtain ⟨r, e11, e12⟩ := Option.bind_eq_some_iff.mp e10
        cases e12
        refine ⟨δ1, Z4, F1, yd, ok1.ext s4, e9, fun v H5 Z5 g5 s5 r5 nd5 dz5 => ?_⟩
        have s35 : Ext Hi Zi H5 Z5 := s3.trans (s4.trans s5)
        have hD5 : H5 D = some (.lst acc) := s35.keep D _ hDi (by simp)
        have ra5 := ra.ext s35
        have su : Stp H5 Z5 [D] (upd H5 D (.lst (acc ++ [v]))) Z5 [D] := Stp.upd (by simp)
        have mu : Mu H5 [D] := Mu.one hD5
        have h4D : H4 D = some (.lst acc) := (s3.trans s4).keep D _ hDi (by simp)
        have nDz : ¬ Z5 D := fun hz => by
          rcases s35.frz D hz with q | q | q
          · exact (dz D List.mem_cons_self).2 q
          · cases q
          · rw [hDi] at q; cases q
        have nDg5 : D ∉ g5 := fun z => by rw [(dz5 D z).1] at h4D; cases h4D
        have nDg : D ∉ g := (List.nodup_cons.mp nd).1
        have nS : ∀ x, x ∈ g ∨ x ∈ g5 → x ∉ [D] := fun x hx hz => by
          simp only [List.mem_singleton] at hz
          subst hz
          exact hx.elim nDg nDg5
        refine ⟨acc, hD5, by omega, Z5, acc ++ [v], accD ++ [yd], g ++ g5, r, (si.trans s35).updNew hD, upd_same,
          (ra5.app (RepA.one r5)).step su mu (fun x hx => by simp only [List.mem_singleton] at hx; rw [hx]; exact nDz) (fun x hx => nS x (List.mem_append.mp hx)), ?_, fun a ha => ?_, by simp; omega, e11, by simp [List.append_assoc, ← ea]⟩
        · refine List.nodup_cons.mpr ⟨fun z => (List.mem_append.mp z).elim nDg nDg5, nd_of (List.nodup_cons.mp nd).2 nd5 fun a ha hb => ?_⟩
          exact (ra.ext (s3.trans s4)).mu.some hb (dz5 a ha).1
        · have old : ∀ a, a ∈ D :: g → H0 a = none ∧ ¬ Z5 a := fun a h => ⟨(dz a h).1, fun hz => by
            have hn : Hi a ≠ none := by
              rcases List.mem_cons.mp h with h | h
              · rw [h, hDi]; intro z; cases z
              · exact ra.mu.some h
            rcases s35.frz a hz with q | q | q
            · exact (dz a h).2 q
            · cases q
            · exact hn q⟩
          rcases List.mem_cons.mp ha with h | h
          · exact old a (by simp [h])
          · rcases List.mem_append.mp h with h | h
            · exact old a (by simp [h])
            · exact ⟨Same.free (si.trans (s3.trans s4)).same (dz5 a h).1, (dz5 a h).2⟩
      | false =>
        rw [if_neg Bool.false_ne_true] at e8
        refine iteF ?_
        have s34 : Ext Hi Zi H4 Z4 := s3.trans s4
        refine ⟨Z4, acc, accD, g, rest, si.trans s34, s34.keep D _ hDi (by simp), ra.ext s34, nd, fun a h => ⟨(dz a h).1, fun hz => ?_⟩, by omega, e8, ea⟩
        have hn : Hi a ≠ none := by
          rcases List.mem_cons.mp h with h | h
          · rw [h, hDi]; intro z; cases z
          · exact ra.mu.some h
        rcases s34.frz a hz with q | q | q
        · exact (dz a h).2 q
        · cases q
        · exact hn q
    · rintro Hi ⟨Zi, acc, accD, g, rest, si, hDi, ra, nd, dz, hl, er, ea⟩
      rw [List.drop_length] at er
      cases er
      rw [List.append_nil] at ea
      subst ea
      exact k (.ref D) Hi Zi (D :: g) (s0.trans si) (.ol hDi ra) nd fun a ha => ⟨Same.free s0.same (dz a ha).1, (dz a ha).2⟩
  · cases e2
theorem cCmp0 {t : T} {elt tg iter : Expr} {ifs : List Expr} {scope : Scope} {own : List (Str × Nat)} {pos : Pos} {src : LF} {tgf : D → List D → Option (List D)} {c : BF} {f : EF} (hc : X.calm = true) (hN : X.N.Nodup) (hi : PI X tg iter (tIP X.K Γ src)) (ok : BlkOk X.N X.env.scope scope own)
    (hg : ∀ (s : Shared) (H : Hp) (C : Addr) (cl : List (Str × Addr)) (fp : List Addr), PG (X.blk s H scope (compEnvC scope cl C X.env) fp) tg (tG X.K Γ Γ1 (own.map (·.2)) tgf)) (ht : ∀ (s : Shared) (H : Hp) (C : Addr) (cl : List (Str × Addr)) (fp : List Addr), PTs (X.blk s H scope (compEnvC scope cl C X.env) fp) ifs (bP X.K Γ1 c))
    (he : ∀ (s : Shared) (H : Hp) (C : Addr) (cl : List (Str × Addr)) (fp : List Addr), PE (X.blk s H scope (compEnvC scope cl C X.env) fp) elt (tC X.K Γ1 t f)) (hno : noIx Γ (own.map (·.2)) = true) (hs : ∀ x, foldedSetIterable iter X.env x = pure x := by intro _; rfl) :
    PE X (.ListComp elt [⟨tg, iter, ifs, 0⟩] scope pos) (tC X.K Γ (.ol t) (xCmp src tgf c f)) := (pe_lc hc hN hi ok hg ht he hs).imp (lcC hno)
theorem lcM {t : T} {vs : List Nat} {src : LM} {tgf : D → List D → Option (List D)} {c : BM} {f : EM} (hno : noIx Γ' vs = true) (hw2 : wk Γ2 Γ' = true) (hw3 : wk Γ3 Γ' = true) : ∀ (σ : L2.St) (H : Hp) (Q : VK), tM K Γ Γ' (.ol t) (xCmpM src tgf c f) σ H Q → tLc (tI K Γ Γ' src) (tG K Γ' Γ1 vs tgf) (bM K Γ1 Γ2 c) (tM K Γ2 Γ3 t f) vs σ H Q := fun σ H Q ⟨δ, Z, F, d, δ', ok, e, k⟩ => by
  obtain ⟨⟨ds, δ0⟩, e1, e2⟩ := Option.bind_eq_some_iff.mp e
  split at e2
  · rename_i hsz
    replace hsz : ds.length ≤ sizeLine := hsz
    obtain ⟨⟨fin, δf⟩, e3, e4⟩ := Option.map_eq_some_iff.mp e2
    cases e4
    refine ⟨δ, Z, F, ds, δ0, ok, e1, fun J H0 Z0 F0 s0 ok0 wk D hD => ?_⟩
    obtain ⟨G, Y, walk, hG, hY⟩ := wk
    have hDF : D ∉ F0 := fun z => ok0.live z hD
    refine lc_it walk (fun i Hi => ∃ δi Zi Fi acc accD g rest, Ok K Γ' σ δi Hi Zi Fi ∧ Hi D = some (.lst acc) ∧ RepA K Hi Zi t acc accD g ∧ (Fi ++ (D :: g)).Nodup ∧ (∀ a ∈ D :: g, ¬ Zi a) ∧ Stp H0 Z0 F0 Hi Zi (Fi ++ (D :: g)) ∧ acc.length ≤ i ∧
        cmpM tgf c f (ds.drop i) δi = some (rest, δf) ∧ accD ++ rest = fin)
      ⟨δ0, Z0, F0, [], [], [], fin, ok0.ext (Ext.new hD), upd_same, .nil, ?_, fun a ha => ?_, ?_, Nat.le_refl _, e3, rfl⟩ ?_ ?_ ?_
    · exact nd_of ok0.nd (by simp) fun a ha => by
        have ea : a = D := by simpa using ha
        rw [ea]; exact hDF
    · have ea : a = D := by simpa using ha
      subst ea
      exact fun hz => ok0.zs a hz hD
    · have s := Ext.new (Z := Z0) (o := HO.lst []) hD
      exact ⟨fun x o q n => s.keep x o q (by simp), s.mono, fun a ha => by
        rcases List.mem_append.mp ha with h | h
        · exact .inl h
        · have ea : a = D := by simpa using h
          rw [ea]; exact .inr hD, (s.stp (F := F0)).frz, s.live, s.zs⟩
    · rintro i Hi hi ⟨δi, Zi, Fi, acc, accD, g, rest, oki, _, _, _, _, si, _⟩
      exact hG Hi Zi (ok0.lat si)
    · rintro i x Hi H3 hi ⟨δi, Zi, Fi, acc, accD, g, rest, oki, hDi, ra, nd, dz, si, hl, er, ea⟩ y
      obtain ⟨d, hd⟩ : ∃ d, ds[i]? = some d := ⟨ds[i], by simp [hi]⟩
      obtain ⟨Z3, s3, sx⟩ := hY i Hi Zi x H3 d (ok0.lat si) y hd
      have hdr : ds.drop i = d :: ds.drop (i + 1) := by
        rw [List.drop_eq_getElem_cons hi]
        have : ds[i] = d := by simpa [hi] using hd
        rw [this]
      rw [hdr] at er
      obtain ⟨δ1, e5, e6⟩ := Option.bind_eq_some_iff.mp er
      obtain ⟨⟨b, δ2⟩, e7, e8⟩ := Option.bind_eq_some_iff.mp e6
      have okw : Ok K Γ' (wipe σ vs) δi H3 Z3 Fi := (oki.ext s3).agree (wipe_length _ _) fun i t hi n => wipe_out (no_at hno hi n)
      have muB : Mu Hi (D :: g) := fun a ha => by
        rcases List.mem_cons.mp ha with h | h
        · rw [h]; exact ⟨_, hDi, rfl⟩
        · exact ra.mu a h
      have apB : ∀ a ∈ D :: g, a ∉ Fi := nd_apart nd
      refine ⟨δi, Z3, Fi, d, δ1, okw, sx, e5, fun σ1 F1 ok1 sb1 l1 j1 => ⟨wipe_eq (l1.trans (wipe_length _ _)) j1, δ1, Z3, F1, b, δ2, ok1, e7, fun H4 Z4 F4 s4 ok4 => ?_⟩⟩
      have s13 : Stp Hi Zi Fi H3 Z3 F1 := s3.stp.sub sb1
      have agr : ∀ (i : Nat) (t : T), Γ'[i]? = some t → t ≠ .no → σ[i]? = σ1[i]? := fun i t hi n => by rw [j1 i (no_at hno hi n), wipe_out (no_at hno hi n)]
      have lagr : σ.length = σ1.length := by rw [l1, wipe_length]
      cases b with
      | true =>
        rw [if_pos (show (true, δ2).1 = true from rfl)] at e8
        refine iteT ?_
        obtain ⟨⟨yd, δ3⟩, e9, e10⟩ := Option.bind_eq_some_iff.mp e8
        obtain ⟨⟨r, δr⟩, e11, e12⟩ := Option.bind_eq_some_iff.mp e10
        cases e12
        refine ⟨δ2, Z4, F4, yd, δ3, ok4, e9, fun v H5 Z5 F5 g5 s5 ok5 r5 nd5 dz5 => ?_⟩
        have S : Stp Hi Zi Fi H5 Z5 (F5 ++ g5) := s13.trans (s4.trans s5)
        have hD5 : H5 D = some (.lst acc) := S.keep D _ hDi (apB D List.mem_cons_self)
        have ra5 := ra.step S oki.mu oki.dz fun a h => apB a (List.mem_cons_of_mem _ h)
        have apB5 := S.apart muB apB
        have dzB5 := S.dzs muB dz apB
        have su : Stp H5 Z5 [D] (upd H5 D (.lst (acc ++ [v]))) Z5 [D] := Stp.upd (by simp)
        have mu : Mu H5 [D] := Mu.one hD5
        have dzD : ∀ x ∈ [D], ¬ Z5 x := fun x hx => by simp only [List.mem_singleton] at hx; rw [hx]; exact dzB5 D List.mem_cons_self
        have nDg : D ∉ g := (List.nodup_cons.mp (List.nodup_append.mp nd).2.1).1
        have nD5 : D ∉ F5 ++ g5 := apB5 D List.mem_cons_self
        have nS : ∀ x, x ∈ g ∨ x ∈ F5 ++ g5 → x ∉ [D] := fun x hx hz => by
          simp only [List.mem_singleton] at hz
          subst hz
          exact hx.elim nDg nD5
        obtain ⟨F6, ok6, sb6⟩ := Ok.weak hw3 ok5
        have ok7 : Ok K Γ' σ δ3 (upd H5 D (.lst (acc ++ [v]))) Z5 F6 := by
          have o1 : Ok K Γ' σ1 δ3 (upd H5 D (.lst (acc ++ [v]))) Z5 F6 := ⟨ok6.env.step su mu dzD fun x hx => nS x (.inr (List.mem_append_left _ (sb6.subset hx))), ok6.nd, ok6.dz, fun x hx => upd_live (ok6.zs x hx)⟩
          exact o1.agree lagr agr
        have ndg5 : (F6 ++ (D :: (g ++ g5))).Nodup := by
          have n1 : ((F5 ++ g5) ++ (D :: g)).Nodup := nd_of nd5 (List.nodup_append.mp nd).2.1 apB5
          have n2 : ((F6 ++ g5) ++ (D :: g)).Nodup := n1.sublist ((sb6.append (.refl _)).append (.refl _))
          refine List.Perm.nodup ?_ n2
          rw [List.append_assoc]
          refine List.Perm.append_left F6 ?_
          have := (List.perm_append_comm (l₁ := g5) (l₂ := D :: g))
          simpa using this
        refine ⟨acc, hD5, by omega, δ3, Z5, F6, acc ++ [v], accD ++ [yd], g ++ g5, r, ok7, upd_same,
          (ra5.app (RepA.one r5)).step su mu dzD (fun x hx => nS x ((List.mem_append.mp hx).imp id (List.mem_append_right _))), ndg5, fun a ha => ?_, ?_, by simp; omega, e11, by simp [List.append_assoc, ← ea]⟩
        · rcases List.mem_cons.mp ha with h | h
          · exact dzB5 a (by simp [h])
          · rcases List.mem_append.mp h with h | h
            · exact dzB5 a (by simp [h])
            · exact dz5 a h
        · refine (si.trans ((S.frame (g := D :: g)).trans (Stp.upd (a := D) (by simp)))).sub fun a ha => ?_
          simp only [List.mem_append, List.mem_cons] at ha ⊢
          rcases ha with h | h | h | h
          · exact .inl (.inl (sb6.subset h))
          · exact .inr (.inl h)
          · exact .inr (.inr h)
          · exact .inl (.inr h)
      | false =>
        rw [if_neg (show ¬ (false, δ2).1 = true from Bool.false_ne_true)] at e8
        refine iteF ?_
        have S : Stp Hi Zi Fi H4 Z4 F4 := s13.trans s4
        obtain ⟨F6, ok6, sb6⟩ := Ok.weak hw2 ok4
        refine ⟨δ2, Z4, F6, acc, accD, g, rest, ok6.agree lagr agr, S.keep D _ hDi (apB D List.mem_cons_self), ra.step S oki.mu oki.dz (fun a h => apB a (List.mem_cons_of_mem _ h)), ?_, S.dzs muB dz apB, ?_, by omega, e8, ea⟩
        · exact nd_of ok6.nd (List.nodup_append.mp nd).2.1 fun a ha hb => S.apart muB apB a ha (sb6.subset hb)
        · refine (si.trans (S.frame (g := D :: g))).sub fun a ha => ?_
          rcases List.mem_append.mp ha with h | h
          · exact List.mem_append_left _ (sb6.subset h)
          · exact List.mem_append_right _ h
    · rintro Hi ⟨δi, Zi, Fi, acc, accD, g, rest, oki, hDi, ra, nd, dz, si, hl, er, ea⟩
      rw [List.drop_length] at er
      cases er
      rw [List.append_nil] at ea
      subst ea
      exact k (.ref D) Hi Zi Fi (D :: g) (s0.trans si) oki (.ol hDi ra) nd dz
  · cases e2
theorem mCmp0 {t : T} {elt tg iter : Expr} {ifs : List Expr} {scope : Scope} {own : List (Str × Nat)} {pos : Pos} {src : LM} {tgf : D → List D → Option (List D)} {c : BM} {f : EM} (hc : X.calm = true) (hN : X.N.Nodup) (hi : PI X tg iter (tI X.K Γ Γ' src)) (ok : BlkOk X.N X.env.scope scope own)
    (hg : ∀ (s : Shared) (H : Hp) (C : Addr) (cl : List (Str × Addr)) (fp : List Addr), PG (X.blk s H scope (compEnvC scope cl C X.env) fp) tg (tG X.K Γ' Γ1 (own.map (·.2)) tgf)) (ht : ∀ (s : Shared) (H : Hp) (C : Addr) (cl : List (Str × Addr)) (fp : List Addr), PTs (X.blk s H scope (compEnvC scope cl C X.env) fp) ifs (bM X.K Γ1 Γ2 c))
    (he : ∀ (s : Shared) (H : Hp) (C : Addr) (cl : List (Str × Addr)) (fp : List Addr), PE (X.blk s H scope (compEnvC scope cl C X.env) fp) elt (tM X.K Γ2 Γ3 t f)) (hno : noIx Γ' (own.map (·.2)) = true) (hw2 : wk Γ2 Γ' = true) (hw3 : wk Γ3 Γ' = true) (hs : ∀ x, foldedSetIterable iter X.env x = pure x := by intro _; rfl) :
    PE X (.ListComp elt [⟨tg, iter, ifs, 0⟩] scope pos) (tM X.K Γ Γ' (.ol t) (xCmpM src tgf c f)) := (pe_lc hc hN hi ok hg ht he hs).imp (lcM hno hw2 hw3)
theorem zSetCmp {i : Nat} {y : Str} {py : Pos} {t : T} {elt tg iter : Expr} {ifs : List Expr} {scope : Scope} {own : List (Str × Nat)} {pos spos : Pos} {src : LF} {tgf : D → List D → Option (List D)} {c : BF} {f : EF} (hc : X.calm = true) (hN : X.N.Nodup) (hy : X.N[i]? = some y) (hyl : X.env.scope.names.lookup y = some .local)
    (hsw : swapsWith (.ListComp elt [⟨tg, iter, ifs, 0⟩] scope pos) (some (.Name y py)) spos.line X.env = pure true) (hi : PI X tg iter (tIP X.K Γ src)) (ok : BlkOk X.N X.env.scope scope own)
    (hg : ∀ (s : Shared) (H : Hp) (C : Addr) (cl : List (Str × Addr)) (fp : List Addr), PG (X.blk s H scope (compEnvC scope cl C X.env) fp) tg (tG X.K Γ Γ1 (own.map (·.2)) tgf)) (ht : ∀ (s : Shared) (H : Hp) (C : Addr) (cl : List (Str × Addr)) (fp : List Addr), PTs (X.blk s H scope (compEnvC scope cl C X.env) fp) ifs (bP X.K Γ1 c))
    (he : ∀ (s : Shared) (H : Hp) (C : Addr) (cl : List (Str × Addr)) (fp : List Addr), PE (X.blk s H scope (compEnvC scope cl C X.env) fp) elt (tC X.K Γ1 t f)) (hno : noIx Γ (own.map (·.2)) = true) (hl : i < Γ.length) (hr : isNo er i = true) (hs : ∀ x, foldedSetIterable iter X.env x = pure x := by intro _; rfl) :
    PS X (.Assign [.Name y py] (.ListComp elt [⟨tg, iter, ifs, 0⟩] scope pos) spos) (tS X.K Γ ⟨Γ.set i (.ol t), eb, ec, er, et⟩ (sSet i (xCmp src tgf c f))) := by
  rw [sSet_eq]
  refine (ps_setLc hc hN hy hyl hsw hi ok hg ht he hs).imp fun W σ H h => post_set (Γ' := Γ) (eb := eb) (ec := ec) (et := et) hl hr (fun Q q => lcC hno σ H Q ?_) h
  obtain ⟨δ, Z, F, d, δ', o, e, k⟩ := q
  unfold mOf at e
  cases q' : xCmp src tgf c f δ with
  | none => rw [q'] at e; cases e
  | some d' =>
    rw [q'] at e; cases e
    refine ⟨δ, Z, F, d, o, q', fun v H' Z' g s r nd hz => k v H' Z' F g ?_ (o.ext s) r (nodup_app o.nd nd fun a ha hf => o.live hf (hz a ha).1) fun a ha => (hz a ha).2⟩
    exact ⟨s.stp.keep, s.mono, fun a ha => (List.mem_append.mp ha).imp id fun z => (hz a z).1, s.stp.frz, s.live, s.zs⟩
theorem zSetCmpM {i : Nat} {y : Str} {py : Pos} {t : T} {elt tg iter : Expr} {ifs : List Expr} {scope : Scope} {own : List (Str × Nat)} {pos spos : Pos} {src : LM} {tgf : D → List D → Option (List D)} {c : BM} {f : EM} (hc : X.calm = true) (hN : X.N.Nodup) (hy : X.N[i]? = some y) (hyl : X.env.scope.names.lookup y = some .local)
    (hsw : swapsWith (.ListComp elt [⟨tg, iter, ifs, 0⟩] scope pos) (some (.Name y py)) spos.line X.env = pure true) (hi : PI X tg iter (tI X.K Γ Γ' src)) (ok : BlkOk X.N X.env.scope scope own)
    (hg : ∀ (s : Shared) (H : Hp) (C : Addr) (cl : List (Str × Addr)) (fp : List Addr), PG (X.blk s H scope (compEnvC scope cl C X.env) fp) tg (tG X.K Γ' Γ1 (own.map (·.2)) tgf)) (ht : ∀ (s : Shared) (H : Hp) (C : Addr) (cl : List (Str × Addr)) (fp : List Addr), PTs (X.blk s H scope (compEnvC scope cl C X.env) fp) ifs (bM X.K Γ1 Γ2 c))
    (he : ∀ (s : Shared) (H : Hp) (C : Addr) (cl : List (Str × Addr)) (fp : List Addr), PE (X.blk s H scope (compEnvC scope cl C X.env) fp) elt (tM X.K Γ2 Γ3 t f)) (hno : noIx Γ' (own.map (·.2)) = true) (hw2 : wk Γ2 Γ' = true) (hw3 : wk Γ3 Γ' = true) (hl : i < Γ'.length) (hr : isNo er i = true) (hs : ∀ x, foldedSetIterable iter X.env x = pure x := by intro _; rfl) :
    PS X (.Assign [.Name y py] (.ListComp elt [⟨tg, iter, ifs, 0⟩] scope pos) spos) (tS X.K Γ ⟨Γ'.set i (.ol t), eb, ec, er, et⟩ (sSetM i (xCmpM src tgf c f))) :=
  (ps_setLc hc hN hy hyl hsw hi ok hg ht he hs).imp fun W σ H h => post_set (Γ' := Γ') (eb := eb) (ec := ec) (et := et) hl hr (fun Q q => lcM hno hw2 hw3 σ H Q q) h
end
end Pv

set_option Elab.async false
set_option linter.all false
set_option maxRecDepth 100000
/-! Pr: list(reversed(a list)). -/
namespace RT
open PySem PySem.Spec PyProof.Rows L2
section
variable {prog : Program} {w : World} {A : Around} {E : Value → Shared → Prop} {s : Shared}
theorem pv_list_init_rev {R : Result → Shared → Prop} {it l S : Addr} {items : Array Value} (hh : A.handled = none) (hit : s.heap.IsRevIter it l ((items.size : Int) - 1)) (hl : s.heap.IsList l items) (hne : l ≠ it) (hSit : S ≠ it) (hSl : S ≠ l) (hn : items.size ≤ sizeLine)
    (hS : s.heap.get? S = some { cls := .type "list", data := .seq #[] })
    (hR : ∀ h' tk acc' c', (∀ b o, b ≠ S → b ≠ it → s.heap.get? b = some o → h'.get? b = some o) → h'.get? S = some { cls := .type "list", dict := none, data := .seq acc' c', slots := #[] } →
      ItemsOf (fun i v => items[items.size - 1 - i]? = some v) acc' items.size → R (.ok (.ret .none)) { s with heap := h', toks := tk }) :
    wpAny (model prog w) A.in1 (Builtin.«list.__init__» ⟨[.ref S, .ref it], []⟩)
      (fun fin s' => match fin with | .done f => R (.ok f) s' | .again c' => c'.quiet = true ∧ codeAny (model prog w) A c' R s') (fun e s' => R (.error e) s') s := by
  show wpAny _ _ (do let old ← Builtin.List.listItems (.ref S); Builtin.List.listUpdate (.ref S) (fun _ => #[]); letGo old.toList.reverse; Builtin.List.listExtendWith (.ref S) (.ref it) .none) _ _ s
  refine wpAny_bind ?_
  unfold Builtin.List.listItems
  refine wpAny_bind (wpAny_seqItems hS rfl (wpAny_pure ?_))
  show wpAny _ _ (updateSeq S (fun _ => #[]) >>= fun _ => letGo (#[] : Array Value).toList.reverse >>= fun _ => Builtin.List.listExtendWith (.ref S) (.ref it) .none) _ _ s
  refine wpAny_bind (wpAny_updateSeq hS rfl ?_)
  have hS₂ := Heap.get?_update_self (Obj.mapSeq (fun _ => (#[] : Array Value))) hS rfl
  have oth : ∀ b o, b ≠ S → s.heap.get? b = some o → (s.heap.update S (Obj.mapSeq (fun _ => (#[] : Array Value)))).get? b = some o :=
    fun b o hb e => (Heap.get?_update_other _ _ (Ne.symm hb)).trans e
  refine wpAny_bind (wpAny_letGo ?_)
  have W := (Walks.listRev (prog := prog) (w := w) (A := A.in1) hh it l hne items).toS
  have hSf : S ∉ [it, l] := by simp only [List.mem_cons, List.not_mem_nil, or_false, not_or]; exact ⟨hSit, hSl⟩
  have hit1 : (s.heap.update S (Obj.mapSeq (fun _ => (#[] : Array Value)))).IsRevIter it l ((items.size : Int) - 1) := hit.at fun o e => oth it o (Ne.symm hSit) e
  have hl1 : (s.heap.update S (Obj.mapSeq (fun _ => (#[] : Array Value)))).IsList l items := by
    obtain ⟨o, e, r⟩ := hl
    exact ⟨o, oth l o (Ne.symm hSl) e, r⟩
  have hT : ({ s with heap := s.heap.update S (Obj.mapSeq (fun _ => (#[] : Array Value))) } : Shared).TypeIs (.ref it) "list_reverseiterator" := Heap.IsRevIter.typeIs (s := { s with heap := s.heap.update S (Obj.mapSeq (fun _ => (#[] : Array Value))) }) hit1
  have h1 : Builtin.List.listSameRef (.ref S) (.ref it) = false := by simp [Builtin.List.listSameRef, hSit]
  unfold Builtin.List.listExtendWith
  refine wpAny_bind (wpAny_typeOf hT ?_)
  rw [if_neg (by rw [h1]; decide)]
  refine wpAny_bind (wpAny_pyIter_revIter (s := { s with heap := s.heap.update S (Obj.mapSeq (fun _ => (#[] : Array Value))) }) hit1 ?_)
  refine wpAny_bind (wpAny_holding ?_)
  unfold Builtin.List.listLengthHint
  refine wpAny_bind (wpAny_specialOf hT nolen_lri ?_)
  show wpAny _ A.in1 (specialOf (Value.ref it) (Str.ofString "__length_hint__") >>= _) _ _ _
  refine wpAny_bind (wpAny_specialOf hT hint_lri ?_)
  generalize hid : ("list_reverseiterator.__length_hint__" : String) = id0
  wp_delta
  rw [show splitId id0 = some ("list_reverseiterator", "__length_hint__") from by subst hid; decide +kernel]
  subst hid
  refine wpAny_bind (wpAny_isInstance (b := true) hT (by rw [isSubtype_type]; kernel_rfl) ?_)
  refine wpAny_pure ?_
  rw [if_neg (by decide)]
  have e0 : ((items.size : Nat) : Int) - 1 - ((0 : Nat) : Int) = (items.size : Int) - 1 := by omega
  refine wpAny_pure ⟨plainId_quiet F.plain_extend_loop _, codeAny_extend_loopS W hn _ hSf _ items.size 0 _ _ _ rfl (Nat.zero_le _) ⟨Nat.zero_le _, by rw [e0]; exact hit1, hl1⟩ hS₂ (ItemsOf.nil _) fun s' acc' c' hm hS' hacc => ?_⟩
  rw [Moved.eq_with hm]
  refine hR s'.heap s'.toks acc' c' (fun b o hb hbi e => hm.heap b o (fun hmem => ?_) (oth b o hb e)) hS' hacc
  rcases List.mem_cons.mp hmem with e' | hmem
  · exact hb e'
  · exact hbi (List.mem_singleton.mp hmem)
theorem pv_call_list_rev {it l : Addr} {items : Array Value} {Q : Value → Shared → Prop} (hh : A.handled = none) (hit : s.heap.IsRevIter it l ((items.size : Int) - 1)) (hl : s.heap.IsList l items) (hne : l ≠ it) (hn : items.size ≤ sizeLine)
    (hQ : ∀ (h' : Heap) (tk : Nat) (acc : Array Value) (c' : Nat), (∀ b o, b ≠ it → s.heap.get? b = some o → h'.get? b = some o) → h'.get? s.heap.objs.size = some { cls := .type "list", dict := none, data := .seq acc c', slots := #[] } →
      ItemsOf (fun i v => items[items.size - 1 - i]? = some v) acc items.size → Q (.ref s.heap.objs.size) { s with heap := h', toks := tk }) :
    wpAny (model prog w) A (call (.type "list") [.ref it]) Q E s := by
  obtain ⟨oi, hoi, _⟩ := id hit
  obtain ⟨ol, hol, _⟩ := id hl
  have hSi : s.heap.objs.size ≠ it := Nat.ne_of_gt (Heap.lt_size hoi)
  have hSl : s.heap.objs.size ≠ l := Nat.ne_of_gt (Heap.lt_size hol)
  refine callType_codes (Q₁ := fun obj s₁ => obj = .ref s.heap.objs.size ∧ s₁ = { s with heap := s.heap.push { cls := .type "list", data := .seq #[] } }) F.called_list (F.typeCall_list_1 _) F.entry_list_init
    (code_list_new _ ⟨rfl, rfl⟩) fun obj s₁ h₁ => ?_
  obtain ⟨rfl, rfl⟩ := h₁
  have hS : (s.heap.push { cls := .type "list", data := .seq #[] }).get? s.heap.objs.size = some { cls := .type "list", data := .seq #[] } := Heap.get?_push_size _ rfl
  refine ⟨⟨_, hS, rfl⟩, F.args_list_init_2 _ _, pv_list_init_rev (A := A.in1) hh (hit.at fun o e => Heap.get?_push_of_some _ e) (hl.push _) hne hSi hSl hn hS fun h' tk acc' c' hk hS' hacc => ?_⟩
  exact ⟨rfl, hQ h' tk acc' c' (fun b o hb e => hk b o (Nat.ne_of_lt (Heap.lt_size e)) hb (Heap.get?_push_of_some _ e)) hS' hacc⟩
end
def tLstRev (K : PySem.W.Frag) (te : TE) : TE := fun σ H Q => te σ H fun v H1 => ∃ (a : Addr) (xs : List V), v = .ref a ∧ SqL K H1 a xs ∧ ∀ q, H1 q = none → Q (.ref q) (upd H1 q (.lst xs.reverse))
theorem pe_lstRev {X : Cx} {e : Expr} {te : TE} {p p2 pos pos2 : Pos} (hc : X.calm = true) (hg : Gl X "list") (hm : X.mg "list" = none) (hg2 : Gl X "reversed") (hm2 : X.mg "reversed" = none) (he : PE X e te)
    (hs : starEach [e] X.env = (false, eval e X.env) :: starEach [] X.env := by rfl)
    (hs2 : starEach [.Call (.Name "reversed" p2) [e] [] pos2] X.env = (false, eval (.Call (.Name "reversed" p2) [e] [] pos2) X.env) :: starEach [] X.env := by rfl) :
    PE X (.Call (.Name "list" p) [.Call (.Name "reversed" p2) [e] [] pos2] [] pos) (tLstRev X.K te) := by
  refine ⟨fun pins s σ H Q I h => ?_⟩
  refine Call_ (ld_blt I hg hm boot_list (PyProof.Rows.callWith_type1 (args_cons (Call_ (ld_blt I hg2 hm2 PyProof.Rows.boot_reversed (PyProof.Rows.callWith_type1 (args_cons (thn (he.run pins s σ H _ I h) fun u s1 ⟨v, H1, I1, r1, q1⟩ => args_nil ?_) hs) hs rfl))) hs2) hs2 rfl))
  obtain ⟨a, xs, ev, hq, q⟩ := q1
  subst ev
  obtain rfl : u = Value.ref a := r1
  obtain ⟨its, rv, p', hz⟩ := I1.list hq
  refine call_reversed_list p'.isList (args_nil ?_)
  have k0 : ∀ b o, s1.heap.get? b = some o → (s1.heap.push (revObj a ((its.toArray.size : Int) - 1))).get? b = some o := fun b o e => Heap.get?_push_of_some _ e
  have I2 : Inv X pins σ H1 { s1 with heap := s1.heap.push (revObj a ((its.toArray.size : Int) - 1)) } := I1.kept (t' := s1.toks) k0
  obtain ⟨f0, f1, f2, f3, f4, f5⟩ := I1.fpOk (H' := H1) (b := s1.heap.objs.size) (Nat.le_refl _) (I1.hok.fresh (Nat.le_refl _))
  have hl := p'.isList
  obtain ⟨ol, hol, _⟩ := id hl
  have hne : a ≠ s1.heap.objs.size := Nat.ne_of_lt (Heap.lt_size hol)
  have hn : its.toArray.size ≤ sizeLine := by rw [List.size_toArray, ← rv.length]; exact hz
  refine pv_call_list_rev (s := { s1 with heap := s1.heap.push (revObj a ((its.toArray.size : Int) - 1)) }) (I1.ok.hd hc) ⟨_, Heap.get?_push_size _ rfl, rfl, rfl⟩ (hl.push _) hne hn fun h' tk acc c' hk hS' hi => ?_
  have I3 : Inv X pins σ (upd H1 (s1.heap.push (revObj a ((its.toArray.size : Int) - 1))).objs.size (.lst xs.reverse)) { s1 with heap := h', toks := tk } := by
    refine I2.turnedNew (t' := tk) (ch := [s1.heap.objs.size]) (fun b o hb e => hk b o (fun z => hb (by simp [z])) e) (fun b hb => ?_) (Nat.le_refl _) ⟨by rw [List.length_reverse]; exact hz, acc.toList, c', vals_rev rv hi, by rw [Array.toArray_toList]; exact hS'⟩
    have eb : b = s1.heap.objs.size := by simpa using hb
    subst eb
    exact ⟨f0, f1, f2, f3, f4, f5⟩
  exact ⟨.ref _, _, I3, rfl, q _ (I2.hok.fresh (Nat.le_refl _))⟩
end RT

set_option Elab.async false
set_option linter.all false
set_option maxRecDepth 100000
/-! Pv10: the operators and built-ins by their data. -/
namespace Pv
open PySem PySem.Spec PyProof.Rows L2
def dI2 (g : Int → Int → Option D) : D → D → Option D
  | .int i, .int j => g i j
  | _, _ => none
def dAdd : D → D → Option D
  | .int i, .int j => some (.int (i + j))
  | .str a, .str b => if a.length + b.length ≤ sizeLine then some (.str (a ++ b)) else none
  | _, _ => none
def dSub : D → D → Option D := dI2 fun i j => some (.int (i - j))
def mulOk (i j : Int) : Bool := (decide (-(2 ^ 64) < i) && decide (i < 2 ^ 64)) || (decide (-(2 ^ 64) < j) && decide (j < 2 ^ 64)) || decide (i.natAbs.log2 + j.natAbs.log2 < 1000000)
def dMul : D → D → Option D := dI2 fun i j => if mulOk i j then some (.int (i * j)) else none
def dFd : D → D → Option D := dI2 fun i j => if 0 < j ∧ j.natAbs.log2 < 9000 then some (.int (i / j)) else none
def dMd : D → D → Option D := dI2 fun i j => if 0 < j then some (.int (i % j)) else none
def dPow : D → D → Option D := dI2 fun i j => if 0 ≤ j ∧ j ≤ 1000000 ∧ i.natAbs < 2 ^ 64 then some (.int (i ^ j.toNat)) else none
def dLt : D → D → Option D := dI2 fun i j => some (.bool (decide (i < j)))
def dLe : D → D → Option D := dI2 fun i j => some (.bool (decide (i ≤ j)))
def dGt : D → D → Option D := dI2 fun i j => some (.bool (decide (j < i)))
def dGe : D → D → Option D := dI2 fun i j => some (.bool (decide (j ≤ i)))
def dEq (x y : D) : Option D := if SeqAt.shaped x && SeqAt.shaped y then some (.bool (PyData.eqv x y)) else none
def dNe (x y : D) : Option D := if SeqAt.shaped x && SeqAt.shaped y then some (.bool (!PyData.eqv x y)) else none
def flatD : D → Bool
  | .none => true
  | .bool _ => true
  | .int _ => true
  | .str _ => true
  | _ => false
def dIn (x y : D) : Option D := match asSeq y with
  | some ds => if flatD x && ds.all flatD then some (.bool (ds.any fun z => PyData.eqv z x)) else none
  | none => none
def dNotIn (x y : D) : Option D := match asSeq y with
  | some ds => if flatD x && ds.all flatD then some (.bool (!ds.any fun z => PyData.eqv z x)) else none
  | none => none
def dIx (x y : D) : Option D := match x, y with
  | .list ds, .int j => atI ds j
  | .tuple ds, .int j => atI ds j
  | _, _ => none
section
variable {K : PySem.W.Frag} {X : Cx} {Γ Γ' Γ1 Γ2 Γ3 : List T} {H H' H1 H2 H3 : Hp} {Z Z' Z1 Z2 Z3 : FzT} {F F' F1 F2 : List Addr} {σ σ' σ1 : L2.St} {δ δ' : List D} {E : TyE} {W W' : Ends}
theorem Sh.strOf {v : V} {x : Str} (h : Sh K H Z v (.str x)) : v = .str x := by cases h; rfl
theorem Sh.blOf {v : V} {b : Bool} (h : Sh K H Z v (.bool b)) : v = .bl b := by cases h; rfl
theorem Sh.nonOf {v : V} (h : Sh K H Z v .none) : v = .non := by cases h; rfl
/-- int operators -/
theorem opsI {C : Int → Int → Prop} {g : Int → Int → V} {o : Int → Int → Option D} (h : ∀ i j d, o i j = some d → C i j ∧ ∀ K H Z, Sh K H Z (g i j) d) : OpS K (rI C g) .sh .sh .sh (dI2 o) := by
  intro H Z x y dx dy d f g' Q rx ry e k
  obtain ⟨sx, _⟩ := rx.shOf
  obtain ⟨sy, _⟩ := ry.shOf
  unfold dI2 at e
  split at e
  · obtain ⟨c, s⟩ := h _ _ _ e
    exact ⟨_, _, sx.intOf, sy.intOf, c, k _ H Z [] .refl (.sh (s K H Z))⟩
  · cases e
theorem opsI0 {g : Int → Int → V} {o : Int → Int → Option D} (h : ∀ i j d, o i j = some d → ∀ K H Z, Sh K H Z (g i j) d) : OpS K (rI0 g) .sh .sh .sh (dI2 o) := by
  intro H Z x y dx dy d f g' Q rx ry e k
  obtain ⟨sx, _⟩ := rx.shOf
  obtain ⟨sy, _⟩ := ry.shOf
  unfold dI2 at e
  split at e
  · exact ⟨_, _, sx.intOf, sy.intOf, k _ H Z [] .refl (.sh (h _ _ _ e K H Z))⟩
  · cases e
theorem sub_s : OpS K (rI0 fun i j => V.int (i - j)) .sh .sh .sh dSub := opsI0 fun i j d e K H Z => by cases e; exact .int _
theorem lt_s : OpS K (rI0 fun i j => V.bl (decide (i < j))) .sh .sh .sh dLt := opsI0 fun i j d e K H Z => by cases e; exact .bl _
theorem le_s : OpS K (rI0 fun i j => V.bl (decide (i ≤ j))) .sh .sh .sh dLe := opsI0 fun i j d e K H Z => by cases e; exact .bl _
theorem gt_s : OpS K (rI0 fun i j => V.bl (decide (j < i))) .sh .sh .sh dGt := opsI0 fun i j d e K H Z => by cases e; exact .bl _
theorem ge_s : OpS K (rI0 fun i j => V.bl (decide (j ≤ i))) .sh .sh .sh dGe := opsI0 fun i j d e K H Z => by cases e; exact .bl _
def CMul' (i j : Int) : Prop := CMul i j ∨ CMulW i j
theorem op_mul' : OpR X (binaryOp .Mult) (rI CMul' fun i j => V.int (i * j)) := opI fun _ _ _ _ _ _ _ hc q => mul_int q (hc.elim CMul.ok CMulW.ok)
theorem mul_s : OpS K (rI CMul' fun i j => V.int (i * j)) .sh .sh .sh dMul := opsI fun i j d e => by
  split at e
  · rename_i h
    cases e
    refine ⟨?_, fun K H Z => .int _⟩
    unfold mulOk at h
    simp only [Bool.or_eq_true, Bool.and_eq_true, decide_eq_true_eq] at h
    rcases h with (h | h) | h
    · exact .inl (.inl h)
    · exact .inl (.inr h)
    · exact .inr h
  · cases e
theorem fd_s : OpS K (rI CDivW fun i j => V.int (i / j)) .sh .sh .sh dFd := opsI fun i j d e => by
  split at e
  · rename_i h
    cases e
    exact ⟨h, fun K H Z => .int _⟩
  · cases e
theorem md_s : OpS K (rI (fun _ j => 0 < j) fun i j => V.int (i % j)) .sh .sh .sh dMd := opsI fun i j d e => by
  split at e
  · rename_i h
    cases e
    exact ⟨h, fun K H Z => .int _⟩
  · cases e
theorem pow_s : OpS K (rI CPow fun i j => V.int (i ^ j.toNat)) .sh .sh .sh dPow := opsI fun i j d e => by
  split at e
  · rename_i h
    cases e
    exact ⟨h, fun K H Z => .int _⟩
  · cases e
def rAdd' : R2 := fun x y H Q => (rI0 fun i j => V.int (i + j)) x y H Q ∨ ∃ i j, x = .str i ∧ y = .str j ∧ i.length + j.length ≤ sizeLine ∧ Q (.str (i ++ j)) H
theorem op_add' : OpR X (binaryOp .Add) rAdd' := op_add.or op_add_str
theorem iop_add' : OpR X (inplaceOp .Add) rAdd' := iop_add.or iop_add_str
theorem add_s : OpS K rAdd' .sh .sh .sh dAdd := by
  intro H Z x y dx dy d f g' Q rx ry e k
  obtain ⟨sx, _⟩ := rx.shOf
  obtain ⟨sy, _⟩ := ry.shOf
  unfold dAdd at e
  split at e
  · cases e
    exact .inl ⟨_, _, sx.intOf, sy.intOf, k _ H Z [] .refl (.sh (.int _))⟩
  · split at e
    · rename_i h
      cases e
      exact .inr ⟨_, _, sx.strOf, sy.strOf, h, k _ H Z [] .refl (.sh (.str _))⟩
    · cases e
  · cases e
mutual
theorem Sh.dp : ∀ {v : V} {d : D}, Sh K H Z v d → d.canLay0 = true → Dp K H v d
  | _, _, .non, _ => .non
  | _, _, .bl b, _ => .bl b
  | _, _, .int i, _ => .int i
  | _, _, .str x, _ => .str x
  | _, _, .lst z r, c => .lst z.sql (ShA.dp r (by simpa [PyData.canLay0] using c))
  | _, _, .tup h r, c => .tup (SqT.of h) (ShA.dp r (by simpa [PyData.canLay0] using c))
  | _, _, .dk _ _ _ _, c => by simp [PyData.canLay0] at c
  | _, _, .dt _ _ _ _, c => by simp [PyData.canLay0] at c
theorem ShA.dp : ∀ {v : List V} {d : List D}, ShA K H Z v d → PyData.canLayAll0 d = true → DpAll K H v d
  | _, _, .nil, _ => .nil
  | _, _, .cons h r, c => by
    simp only [PyData.canLayAll0, Bool.and_eq_true] at c
    exact .cons (Sh.dp h c.1) (ShA.dp r c.2)
end
mutual
theorem Rep.dp : ∀ {t : T} {v : V} {d : D} {f : List Addr}, Rep K H Z t v d f → t.full = true → d.canLay0 = true → Dp K H v d
  | _, _, _, _, .no, h, _ => by cases h
  | _, _, _, _, .sh h, _, c => h.dp c
  | _, _, _, _, .ol h r, hf, c => .lst (SqL.of h) (RepA.dp r hf (by simpa [PyData.canLay0] using c))
  | _, _, _, _, .dk _ _ _, _, c => by simp [PyData.canLay0] at c
  | _, _, _, _, .dt _ _ _, _, c => by simp [PyData.canLay0] at c
  | _, _, _, _, .ex _ _ _, hf, _ => by cases hf
  | _, _, _, _, .pr h r1 r2, hf, c => by
    have hf' := (Bool.and_eq_true _ _).mp hf
    simp only [PyData.canLay0, PyData.canLayAll0, Bool.and_eq_true, and_true] at c
    exact .tup (SqT.of h) (.cons (Rep.dp r1 hf'.1 c.1) (.cons (Rep.dp r2 hf'.2 c.2) .nil))
theorem RepA.dp : ∀ {t : T} {v : List V} {d : List D} {f : List Addr}, RepA K H Z t v d f → t.full = true → PyData.canLayAll0 d = true → DpAll K H v d
  | _, _, _, _, .nil, _, _ => .nil
  | _, _, _, _, .cons h r, hf, c => by
    simp only [PyData.canLayAll0, Bool.and_eq_true] at c
    exact .cons (Rep.dp h hf c.1) (RepA.dp r hf c.2)
end
theorem eq_s {s t : T} (hs : s.full = true) (ht : t.full = true) : OpS K (rEqD K) s t .sh dEq := by
  intro H Z x y dx dy d f g' Q rx ry e k
  unfold dEq at e
  split at e
  · rename_i h
    cases e
    rw [Bool.and_eq_true] at h
    exact ⟨dx, dy, rx.dp hs (SeqAt.canLay_of_shaped h.1), ry.dp ht (SeqAt.canLay_of_shaped h.2), h.1, h.2, k _ H Z [] .refl (.sh (.bl _))⟩
  · cases e
theorem ne_s {s t : T} (hs : s.full = true) (ht : t.full = true) : OpS K (rNeD K) s t .sh dNe := by
  intro H Z x y dx dy d f g' Q rx ry e k
  unfold dNe at e
  split at e
  · rename_i h
    cases e
    rw [Bool.and_eq_true] at h
    exact ⟨dx, dy, rx.dp hs (SeqAt.canLay_of_shaped h.1), ry.dp ht (SeqAt.canLay_of_shaped h.2), h.1, h.2, k _ H Z [] .refl (.sh (.bl _))⟩
  · cases e
theorem flat_V {v : V} {d : D} (h : Sh K H Z v d) (f : flatD d = true) : flatV v = true := by cases h <;> first | rfl | cases f
theorem eqv_flat {v w : V} {d e : D} (h : Sh K H Z v d) (h' : Sh K H Z w e) (f : flatD d = true) (f' : flatD e = true) : eqV v w = PyData.eqv d e := by
  cases h <;> cases h' <;> first | (cases f; done) | (cases f'; done) | (simp only [PyData.eqv]; rfl) | skip
theorem all_flatV : ∀ {xs : List V} {ds : List D}, ShA K H Z xs ds → ds.all flatD = true → xs.all flatV = true
  | _, _, .nil, _ => rfl
  | _, _, .cons h r, f => by
    rw [List.all_cons, Bool.and_eq_true] at f ⊢
    exact ⟨flat_V h f.1, all_flatV r f.2⟩
theorem inV_eq {x : V} {dx : D} (hx : Sh K H Z x dx) (fx : flatD dx = true) : ∀ {xs : List V} {ds : List D}, ShA K H Z xs ds → ds.all flatD = true → inV x xs = ds.any fun z => PyData.eqv z dx
  | _, _, .nil, _ => rfl
  | _, _, .cons h r, f => by
    rw [List.all_cons, Bool.and_eq_true] at f
    have ih := inV_eq hx fx r f.2
    unfold inV at ih ⊢
    rw [List.any_cons, List.any_cons, ih, eqv_flat h hx f.1 fx]
/-- a list or tuple of shared items -/
def seqT : T → Bool
  | .sh => true
  | .ol .sh => true
  | _ => false
theorem seq_of {t : T} {y : V} {d : D} {ds : List D} {g : List Addr} (ht : seqT t = true) (r : Rep K H Z t y d g) (e : asSeq d = some ds) : ∃ p xs, y = .ref p ∧ (SqL K H p xs ∨ H p = some (.tup xs)) ∧ ShA K H Z xs ds := by
  cases r with
  | no => cases ht
  | sh h =>
    cases h with
    | lst z r => cases e; exact ⟨_, _, rfl, .inl z.sql, r⟩
    | tup h r => cases e; exact ⟨_, _, rfl, .inr h, r⟩
    | _ => cases e
  | @ol u _ _ _ _ h r =>
    cases e
    cases u with
    | sh => exact ⟨_, _, rfl, .inl (SqL.of h), r.shA.1⟩
    | _ => cases ht
  | pr => cases ht
  | dk => cases ht
  | dt => cases ht
  | ex => cases ht
theorem in_s {t : T} (ht : seqT t = true) : OpS K (rIn K false) .sh t .sh dIn := by
  intro H Z x y dx dy d f g' Q rx ry e k
  unfold dIn at e
  split at e
  · rename_i ds hds
    split at e
    · rename_i hf
      cases e
      rw [Bool.and_eq_true] at hf
      obtain ⟨p, xs, rfl, hq, sa⟩ := seq_of ht ry hds
      obtain ⟨sx, _⟩ := rx.shOf
      refine ⟨p, xs, rfl, hq.imp id SqT.of, flat_V sx hf.1, all_flatV sa hf.2, ?_⟩
      rw [if_neg Bool.false_ne_true, inV_eq sx hf.1 sa hf.2]
      exact k _ H Z [] .refl (.sh (.bl _))
    · cases e
  · cases e
theorem notin_s {t : T} (ht : seqT t = true) : OpS K (rIn K true) .sh t .sh dNotIn := by
  intro H Z x y dx dy d f g' Q rx ry e k
  unfold dNotIn at e
  split at e
  · rename_i ds hds
    split at e
    · rename_i hf
      cases e
      rw [Bool.and_eq_true] at hf
      obtain ⟨p, xs, rfl, hq, sa⟩ := seq_of ht ry hds
      obtain ⟨sx, _⟩ := rx.shOf
      refine ⟨p, xs, rfl, hq.imp id SqT.of, flat_V sx hf.1, all_flatV sa hf.2, ?_⟩
      rw [if_pos rfl, inV_eq sx hf.1 sa hf.2]
      exact k _ H Z [] .refl (.sh (.bl _))
    · cases e
  · cases e
theorem atI_sh {xs : List V} {ds : List D} {j : Int} {d : D} (r : ShA K H Z xs ds) (e : atI ds j = some d) : ∃ v, atI xs j = some v ∧ Sh K H Z v d := by
  unfold atI at e ⊢
  rw [r.len]
  obtain ⟨n, e1, e2⟩ := Option.bind_eq_some_iff.mp e
  obtain ⟨v, h1, h2⟩ := r.get e2
  exact ⟨v, by rw [e1]; exact h1, h2⟩
theorem atI_rep {t : T} {xs : List V} {ds : List D} {f : List Addr} {j : Int} {d : D} (r : RepA K H Z t xs ds f) (e : atI ds j = some d) : ∃ v g, atI xs j = some v ∧ Rep K H Z t v d g := by
  unfold atI at e ⊢
  rw [Rep.len r]
  obtain ⟨n, e1, e2⟩ := Option.bind_eq_some_iff.mp e
  obtain ⟨v, f1, g, f2, h1, _, _, h2, _⟩ := r.at e2
  exact ⟨v, g, by rw [e1]; exact h1, h2⟩
theorem ix_sh : OpS K (rIx K) .sh .sh .sh dIx := by
  intro H Z x y dx dy d f g' Q rx ry e k
  obtain ⟨sx, _⟩ := rx.shOf
  obtain ⟨sy, _⟩ := ry.shOf
  unfold dIx at e
  split at e
  · cases sx with
    | lst z r =>
      obtain ⟨v, hv, hs⟩ := atI_sh r e
      exact .inl ⟨_, _, _, v, rfl, sy.intOf, z.sql, hv, k _ H Z [] .refl (.sh hs)⟩
  · cases sx with
    | tup h r =>
      obtain ⟨v, hv, hs⟩ := atI_sh r e
      exact .inr (.inl ⟨_, _, _, v, rfl, sy.intOf, SqT.of h, hv, k _ H Z [] .refl (.sh hs)⟩)
  · cases e
theorem ix_ol {t : T} : OpS K (rIx K) (.ol t) .sh t dIx := by
  intro H Z x y dx dy d f g' Q rx ry e k
  obtain ⟨sy, _⟩ := ry.shOf
  obtain ⟨a, xs, ds, f', rfl, rfl, rfl, h, r⟩ := ofList rx
  unfold dIx at e
  split at e
  · rename_i he
    cases he
    obtain ⟨v, g, hv, hs⟩ := atI_rep r e
    exact .inl ⟨_, _, _, v, rfl, sy.intOf, SqL.of h, hv, k _ H Z g .refl hs⟩
  · rename_i he
    cases he
  · cases e
theorem cIx {s t : T} {fa fb : EF} {a b : Expr} {pos : Pos} (h : OpS X.K (rIx X.K) s .sh t dIx) (ha : PE X a (tP X.K Γ s fa)) (hb : PE X b (tP X.K Γ .sh fb)) (hs : PlainIx b) : PE X (.Subscript a b pos) (tP X.K Γ t (x2 dIx fa fb)) :=
  (pe_ix ix_seq ha hb hs).imp fun _ _ _ => p2 h

/-! ### built-ins -/
def oLen : List D → Option D
  | [.list ds] => some (.int ds.length)
  | [.tuple ds] => some (.int ds.length)
  | [.str z] => if z.length ≤ sizeLine then some (.int z.length) else none
  | _ => none
def rLen (K : PySem.W.Frag) : List V → Hp → VK → Prop := fun xs H Q => (∃ p ys, xs = [.ref p] ∧ (SqL K H p ys ∨ SqT K H p ys) ∧ Q (.int ys.length) H) ∨ ∃ z, xs = [.str z] ∧ z.length ≤ sizeLine ∧ Q (.int z.length) H
theorem call_len' : CallR X (.builtin "len") (rLen X.K) := call_len_seq.or call_len_str
theorem len_s {t : T} (ht : t.full = true) : CalS K (rLen K) [t] .sh oLen := by
  intro H Z vs ds d g Q en e k
  have l := en.len
  unfold oLen at e
  split at e
  · cases e
    match vs, l, en with
    | [v], _, .cons r _ =>
      cases r with
      | no => cases ht
      | sh h => cases h with | lst z r => exact .inl ⟨_, _, rfl, .inl z.sql, by rw [r.len]; exact k _ H Z [] .refl (.sh (.int _))⟩
      | ol h r => exact .inl ⟨_, _, rfl, .inl (SqL.of h), by rw [Rep.len r]; exact k _ H Z [] .refl (.sh (.int _))⟩
    | [v], _, .no _ => cases ht
  · cases e
    match vs, l, en with
    | [v], _, .cons r _ =>
      cases r with
      | no => cases ht
      | sh h => cases h with | tup h r => exact .inl ⟨_, _, rfl, .inr (SqT.of h), by rw [r.len]; exact k _ H Z [] .refl (.sh (.int _))⟩
      | pr h r1 r2 => exact .inl ⟨_, _, rfl, .inr (SqT.of h), k _ H Z [] .refl (.sh (.int _))⟩
    | [v], _, .no _ => cases ht
  · split at e
    · rename_i hz
      cases e
      match vs, l, en with
      | [v], _, .cons r _ =>
        cases r with
        | no => cases ht
        | sh h => have := h.strOf; subst this; exact .inr ⟨_, rfl, hz, k _ H Z [] .refl (.sh (.int _))⟩
      | [v], _, .no _ => cases ht
    · cases e
  · cases e
def oInt : List D → Option D
  | [.int i] => some (.int i)
  | [.bool b] => some (.int (if b then 1 else 0))
  | _ => none
theorem int_s : CalS K (fun xs H Q => (∃ i, xs = [V.int i] ∧ Q (.int i) H) ∨ ∃ k, xs = [V.bl k] ∧ Q (.int (if k then 1 else 0)) H) [.sh] .sh oInt := by
  intro H Z vs ds d g Q en e k
  unfold oInt at e
  split at e
  · cases e
    obtain ⟨v, rfl, s⟩ := vs1 en
    have := s.intOf; subst this
    exact .inl ⟨_, rfl, k _ H Z [] .refl (.sh (.int _))⟩
  · cases e
    obtain ⟨v, rfl, s⟩ := vs1 en
    have := s.blOf; subst this
    exact .inr ⟨_, rfl, k _ H Z [] .refl (.sh (.int _))⟩
  · cases e
def oAbs : List D → Option D
  | [.int i] => some (.int (if i < 0 then -i else i))
  | _ => none
theorem abs_s : CalS K (fun xs H Q => ∃ i, xs = [V.int i] ∧ Q (.int (if i < 0 then -i else i)) H) [.sh] .sh oAbs := by
  intro H Z vs ds d g Q en e k
  unfold oAbs at e
  split at e
  · cases e
    obtain ⟨v, rfl, s⟩ := vs1 en
    have := s.intOf; subst this
    exact ⟨_, rfl, k _ H Z [] .refl (.sh (.int _))⟩
  · cases e
theorem vs1t {t : T} {vs : List V} {d : D} {g : List Addr} (hn : t ≠ .no) (h : Env K H Z [t] (vs.map some) [d] g) : ∃ v g', vs = [v] ∧ Rep K H Z t v d g' := by
  have l := h.len.1
  match vs, l, h with
  | [v], _, .cons r _ => exact ⟨v, _, rfl, r⟩
  | [v], _, .no _ => exact absurd rfl hn
def oTup : List D → Option D
  | [d] => (asSeq d).map .tuple
  | _ => none
theorem tup_s {t : T} (ht : seqT t = true) : CalS K (fun xs H Q => ∃ p ys, xs = [V.ref p] ∧ ((SqL K H p ys ∧ ∀ l, H l = none → Q (.ref l) (upd H l (.tup ys))) ∨ (SqT K H p ys ∧ Q (.ref p) H))) [t] .sh oTup := by
  intro H Z vs ds d g Q en e k
  unfold oTup at e
  split at e
  · obtain ⟨es, e1, e2⟩ := Option.map_eq_some_iff.mp e
    cases e2
    obtain ⟨v, g', rfl, r⟩ := vs1t (fun z => by rw [z] at ht; cases ht) en
    obtain ⟨p, xs, rfl, hq, sa⟩ := seq_of ht r e1
    rcases hq with hq | hq
    · exact ⟨p, xs, rfl, .inl ⟨hq, fun l hl => k _ _ Z [] (Ext.new hl) (.sh (.tup upd_same (sa.ext (Ext.new hl))))⟩⟩
    · exact ⟨p, xs, rfl, .inr ⟨SqT.of hq, k _ H Z [] .refl (.sh (.tup hq sa))⟩⟩
  · cases e
def oLst : List D → Option D
  | [d] => (asSeq d).map .list
  | _ => none
def rLst (K : PySem.W.Frag) : List V → Hp → VK → Prop := fun xs H Q => ∃ p ys, xs = [V.ref p] ∧ (SqL K H p ys ∨ SqT K H p ys) ∧ ∀ l, H l = none → Q (.ref l) (upd H l (.lst ys))
theorem call_list' : CallR X (.type "list") (rLst X.K) := call_list_of
/-- list(x), frozen at once; a fresh one by lst_c -/
theorem lst_s {t : T} (ht : seqT t = true) : CalS K (rLst K) [t] .sh oLst := by
  intro H Z vs ds d g Q en e k
  unfold oLst at e
  split at e
  · obtain ⟨es, e1, e2⟩ := Option.map_eq_some_iff.mp e
    cases e2
    obtain ⟨v, g', rfl, r⟩ := vs1t (fun z => by rw [z] at ht; cases ht) en
    obtain ⟨p, xs, rfl, hq, sa⟩ := seq_of ht r e1
    exact ⟨p, xs, rfl, hq.imp id SqT.of, fun l hl => k _ _ _ [] (Ext.newZ hl) (.sh (.lst (.inl ⟨.inr rfl, .inl upd_same⟩) (sa.ext (Ext.newZ hl))))⟩
  · cases e
/-- list(x): needs to know that what is new is not frozen -/
theorem cListC {e : Expr} {t : T} {f : LF} {p pos : Pos} (hg : Gl X "list") (hm : X.mg "list" = none) (ht : seqT t = true) (ha : PA X [e] (aP X.K Γ [t] f)) (he : starEach [e] X.env = (false, eval e X.env) :: starEach [] X.env := by rfl) :
    PE X (.Call (.Name "list" p) [e] [] pos) (tC X.K Γ (.ol .sh) (xL oLst f)) :=
  (pe_callTy call_list' hg hm boot_list ha (by decide) (by decide) he (by rfl)).imp fun σ H Q ⟨δ, Z, F, d, ok, e, k⟩ => by
  obtain ⟨ds, e1, e2⟩ := Option.bind_eq_some_iff.mp e
  refine ⟨δ, Z, F, ds, ok, e1, fun vs H1 Z1 g s1 en => ?_⟩
  unfold oLst at e2
  split at e2
  · obtain ⟨es, e3, e4⟩ := Option.map_eq_some_iff.mp e2
    cases e4
    obtain ⟨v, g', rfl, r⟩ := vs1t (fun z => by rw [z] at ht; cases ht) en
    obtain ⟨p, xs, rfl, hq, sa⟩ := seq_of ht r e3
    refine ⟨p, xs, rfl, hq.imp id SqT.of, fun l hl => k _ _ Z1 [l] (s1.trans (Ext.new hl)) (.ol upd_same (sa.ext (Ext.new hl)).repA) (by simp) fun a h => ?_⟩
    have ea : a = l := by simpa using h
    subst ea
    exact ⟨Same.free s1.same hl, fun hz => (ok.ext s1).zs a hz hl⟩
  · cases e2
def oRev : D → Option D
  | .list ds => some (.list ds.reverse)
  | _ => none
theorem ShA.rev : ∀ {xs : List V} {ds : List D}, ShA K H Z xs ds → ShA K H Z xs.reverse ds.reverse
  | _, _, .nil => .nil
  | _, _, .cons h r => by
    rw [List.reverse_cons, List.reverse_cons]
    exact (ShA.rev r).app (.cons h .nil)
theorem cLstRev {e : Expr} {t : T} {f : EF} {p p2 pos pos2 : Pos} (hc : X.calm = true) (hg : Gl X "list") (hm : X.mg "list" = none) (hg2 : Gl X "reversed") (hm2 : X.mg "reversed" = none) (ht : seqT t = true) (he : PE X e (tP X.K Γ t f))
    (hs : starEach [e] X.env = (false, eval e X.env) :: starEach [] X.env := by rfl)
    (hs2 : starEach [.Call (.Name "reversed" p2) [e] [] pos2] X.env = (false, eval (.Call (.Name "reversed" p2) [e] [] pos2) X.env) :: starEach [] X.env := by rfl) :
    PE X (.Call (.Name "list" p) [.Call (.Name "reversed" p2) [e] [] pos2] [] pos) (tC X.K Γ (.ol .sh) (x1 oRev f)) := (RT.pe_lstRev hc hg hm hg2 hm2 he hs hs2).imp fun σ H Q ⟨δ, Z, F, d, ok, e, k⟩ => by
  obtain ⟨dl, e1, e2⟩ := Option.bind_eq_some_iff.mp e
  refine ⟨δ, Z, F, dl, ok, e1, fun v H1 Z1 g s1 r => ?_⟩
  cases dl with
  | list ds =>
    cases e2
    obtain ⟨a, xs, rfl, hq, sa⟩ : ∃ a xs, v = .ref a ∧ SqL X.K H1 a xs ∧ ShA X.K H1 Z1 xs ds := by
      cases r with
      | no => cases ht
      | sh h => cases h with | lst z r => exact ⟨_, _, rfl, z.sql, r⟩
      | @ol u _ _ _ _ h r =>
        cases u with
        | sh => exact ⟨_, _, rfl, SqL.of h, r.shA.1⟩
        | _ => cases ht
    refine ⟨a, xs, rfl, hq, fun q hq' => k _ _ Z1 [q] (s1.trans (Ext.new hq')) (.ol upd_same (sa.rev.ext (Ext.new hq')).repA) (by simp) fun b h => ?_⟩
    have eb : b = q := by simpa using h
    subst eb
    exact ⟨Same.free s1.same hq', fun hz => (ok.ext s1).zs b hz hq'⟩
  | _ => cases e2
/-- list(range(n)) -/
def oLstRng : D → Option D
  | .int j => if -(2 ^ 62) ≤ j ∧ j ≤ 2 ^ 24 then some (.list (rngD 0 j.toNat)) else none
  | _ => none
theorem sha_rng (a b : Int) : ShA K H Z (rgV a b) (rngD a (b - a).toNat) := by
  have : ∀ (n : Nat), ShA K H Z ((List.range n).map fun i => V.int (a + (i : Nat))) ((List.range n).map fun (k : Nat) => PyData.int (a + (k : Int))) := by
    intro n
    induction n with
    | zero => exact .nil
    | succ n ih =>
      rw [List.range_succ, List.map_append, List.map_append]
      exact ih.app (.cons (.int _) .nil)
  exact this _
theorem cLstRng {a : Expr} {f : EF} {p p2 pos pos2 : Pos} (hc : X.calm = true) (hg : Gl X "list") (hm : X.mg "list" = none) (hg2 : Gl X "range") (hm2 : X.mg "range" = none) (ha : PE X a (tP X.K Γ .sh f)) (na : starEach [a] X.env = (false, eval a X.env) :: starEach [] X.env := by rfl)
    (na2 : starEach [.Call (.Name "range" p2) [a] [] pos2] X.env = (false, eval (.Call (.Name "range" p2) [a] [] pos2) X.env) :: starEach [] X.env := by rfl) :
    PE X (.Call (.Name "list" p) [.Call (.Name "range" p2) [a] [] pos2] [] pos) (tC X.K Γ (.ol .sh) (x1 oLstRng f)) := (pe_listRg hc hg hm (prg_1 hg2 hm2 ha na) na2).imp fun σ H Q ⟨δ, Z, F, d, ok, e, k⟩ => by
  obtain ⟨jd, e1, e2⟩ := Option.bind_eq_some_iff.mp e
  refine ⟨δ, Z, F, jd, ok, e1, fun v H1 Z1 g s1 r => ?_⟩
  unfold oLstRng at e2
  split at e2
  · rename_i j
    split at e2
    · rename_i hj
      cases e2
      have ev := r.shOf.1.intOf
      refine ⟨j, ev, ⟨by decide, by decide, hj.1, by omega, by omega⟩, fun q hq => k _ _ Z1 [q] (s1.trans (Ext.new hq)) (.ol upd_same ?_) (by simp) fun b h => ?_⟩
      · have := (sha_rng (K := X.K) (H := upd H1 q (.lst (rgV 0 j))) (Z := Z1) 0 j).repA
        rw [Int.sub_zero] at this
        exact this
      · have eb : b = q := by simpa using h
        subst eb
        exact ⟨Same.free s1.same hq, fun hz => (ok.ext s1).zs b hz hq⟩
    · cases e2
  · cases e2
/-- all of a list of bools -/
def bools : List D → Option (List Bool)
  | [] => some []
  | d :: ds => (toB d).bind fun b => (bools ds).bind fun bs => some (b :: bs)
def oAll : List D → Option D
  | [.list ds] => (bools ds).map fun bs => .bool (bs.all id)
  | _ => none
theorem bools_V : ∀ {xs : List V} {ds : List D} {bs : List Bool}, ShA K H Z xs ds → bools ds = some bs → xs = bs.map V.bl
  | _, _, _, .nil, e => by cases e; rfl
  | _, _, _, .cons h r, e => by
    obtain ⟨b, e1, e2⟩ := Option.bind_eq_some_iff.mp e
    obtain ⟨bs, e3, e4⟩ := Option.bind_eq_some_iff.mp e2
    cases e4
    obtain ⟨rfl, rfl⟩ := toB_sh h e1
    rw [List.map_cons, bools_V r e3]
theorem all_s {t : T} (ht : seqT t = true) : CalS K (rAll K) [t] .sh oAll := by
  intro H Z vs ds d g Q en e k
  unfold oAll at e
  split at e
  · obtain ⟨bs, e1, e2⟩ := Option.map_eq_some_iff.mp e
    cases e2
    obtain ⟨v, g', rfl, r⟩ := vs1t (fun z => by rw [z] at ht; cases ht) en
    cases r with
    | no => cases ht
    | sh h => cases h with | lst z r => exact ⟨_, bs, rfl, by rw [← bools_V r e1]; exact z.sql, k _ H Z [] .refl (.sh (.bl _))⟩
    | @ol u _ _ _ _ h r =>
      cases u with
      | sh => exact ⟨_, bs, rfl, by rw [← bools_V r.shA.1 e1]; exact SqL.of h, k _ H Z [] .refl (.sh (.bl _))⟩
      | _ => cases ht
  · cases e
/-! ### isinstance -/
def tyD : D → String
  | .none => "NoneType"
  | .bool _ => "bool"
  | .int _ => "int"
  | .str _ => "str"
  | .list _ => "list"
  | .tuple _ => "tuple"
  | .dict _ => "dict"
def isiT (a b : String) : Bool := a == b || (a == "bool" && b == "int")
def dIsi (T : String) (d : D) : Option D := match d with
  | .dict _ => none
  | d => some (.bool (isiT (tyD d) T))
theorem tyx {v : V} {d : D} (h : Sh K H Z v d) (hd : ∀ k, d ≠ .dict k) : TyX K H v (.type (tyD d)) := by
  cases h with
  | non => exact .base .non
  | bl b => exact .base (.bl b)
  | int i => exact .base (.int i)
  | str x => exact .base (.str x)
  | lst z r =>
    rcases z.sql with (h | ⟨o, h⟩) | ⟨o, its, n, h, c, _⟩
    · exact .base (.lst h)
    · exact .base (.frz h)
    · exact .kList h c
  | tup h r => exact .base (.tup h)
  | dk => exact absurd rfl (hd _)
  | dt => exact absurd rfl (hd _)
def isiOk (T : String) : Prop := ∀ a ∈ ["NoneType", "bool", "int", "str", "list", "tuple"], kitB a T = some (isiT a T)
instance (T : String) : Decidable (isiOk T) := by unfold isiOk; infer_instance
theorem isi_int : isiOk "int" := by decide +kernel
theorem isi_bool : isiOk "bool" := by decide +kernel
theorem isi_tuple : isiOk "tuple" := by decide +kernel
theorem isi_str : isiOk "str" := by decide +kernel
theorem isi_list : isiOk "list" := by decide +kernel
theorem tyD_in {d : D} (hd : ∀ k, d ≠ .dict k) : tyD d ∈ ["NoneType", "bool", "int", "str", "list", "tuple"] := by
  cases d <;> first | (exact absurd rfl (hd _)) | (simp [tyD])
theorem cIsi {T : String} {x : Str} {e : Expr} {f : EF} {p p2 pos : Pos} (hT : isiOk T) (hg : Gl X "isinstance") (hm : X.mg "isinstance" = none) (hb : PE X (.Name x p2) (L2.tC (V.ty T))) (he : PE X e (tP X.K Γ .sh f))
    (hs : starEach [e, .Name x p2] X.env = (false, eval e X.env) :: starEach [.Name x p2] X.env := by rfl) (hs2 : starEach [.Name x p2] X.env = (false, eval (.Name x p2) X.env) :: starEach [] X.env := by rfl) :
    PE X (.Call (.Name "isinstance" p) [e, .Name x p2] [] pos) (tP X.K Γ .sh (x1 (dIsi T) f)) := (pe_callB call_isi hg hm (by decide +kernel) (pa_cons he (pa_cons hb pa_nil hs2) hs) (by decide) (by decide) hs (by rfl)).imp fun σ H Q ⟨δ, Z, F, d, ok, e, k⟩ => by
  obtain ⟨dx, e1, e2⟩ := Option.bind_eq_some_iff.mp e
  refine ⟨δ, Z, F, dx, ok, e1, fun v H1 Z1 g s1 r => ?_⟩
  unfold dIsi at e2
  split at e2
  · cases e2
  · rename_i hd
    cases e2
    have hd' : ∀ k, dx ≠ .dict k := fun k z => hd k z
    exact ⟨v, .ty T, _, _, _, rfl, .ty T, tyx r.shOf.1 hd', kit_ty (hT _ (tyD_in hd')), k _ H1 Z1 [] s1 (.sh (.bl _))⟩
end
end Pv

set_option Elab.async false
set_option linter.all false
set_option maxRecDepth 100000
/-! Pv11: unpacking, a name that takes a comprehension, keywords, the ends. -/
namespace Pv
open PySem PySem.Spec PyProof.Rows L2
def sUnpM (f : EM) (tg : D → List D → Option (List D)) : SF := fun δ => (f δ).bind fun p => (tg p.1 p.2).bind fun δ1 => some (.nx δ1)
def sUnp (f : EF) (tg : D → List D → Option (List D)) : SF := fun δ => (f δ).bind fun d => (tg d δ).bind fun δ1 => some (.nx δ1)
section
variable {K : PySem.W.Frag} {X : Cx} {Γ Γ' Γ1 Γ2 Γ3 : List T} {H H' H1 H2 H3 : Hp} {Z Z' Z1 Z2 Z3 : FzT} {F F' F1 F2 : List Addr} {σ σ' σ1 : L2.St} {δ δ' : List D} {en eb ec er : List T} {et : T} {W W' : Ends}
theorem zUnpM {tg e : Expr} {f : EM} {ix : List Nat} {tgf : D → List D → Option (List D)} {pos : Pos} (he : PE X e (tM X.K Γ Γ' .sh f)) (hg : PG X tg (tG X.K Γ' Γ1 ix tgf)) (hr : noIx er ix = true)
    (hs : swapsWithSole [tg] e pos.line X.env = pure false := by rfl) (hw : swappedStores [tg] e X.env = pure none := by rfl) (h1 : (assignEach [tg] X.env).map (·.2) = [assign tg X.env] := by rfl) :
    PS X (.Assign [tg] e pos) (tS X.K Γ ⟨Γ1, eb, ec, er, et⟩ (sUnpM f tgf)) := (ps_asg he hg hs hw h1).imp fun W σ H ⟨δ, Z, F, out, ok, e, p⟩ => by
  obtain ⟨⟨d, δ'⟩, e1, e2⟩ := Option.bind_eq_some_iff.mp e
  obtain ⟨δ1, e3, e4⟩ := Option.bind_eq_some_iff.mp e2
  cases e4
  refine ⟨δ, Z, F, d, δ', ok, e1, fun v H' Z' F' g s o r nd dz => ?_⟩
  obtain ⟨rs, rfl⟩ := r.shOf
  refine ⟨δ', Z', F', d, δ1, o, rs, e3, fun σ1 F1 ok1 sb1 l1 j1 => p σ1 H' Z' F1 (s.sub fun a h => List.mem_append_left _ (sb1 a h)) ok1 (fix_ix hr j1)⟩
theorem sUnp_eq (f : EF) (tg : D → List D → Option (List D)) : sUnp f tg = sUnpM (mOf f) tg := by
  funext δ
  unfold sUnp sUnpM mOf
  cases f δ <;> rfl
theorem zUnp {tg e : Expr} {f : EF} {ix : List Nat} {tgf : D → List D → Option (List D)} {pos : Pos} (he : PE X e (tP X.K Γ .sh f)) (hg : PG X tg (tG X.K Γ Γ1 ix tgf)) (hr : noIx er ix = true)
    (hs : swapsWithSole [tg] e pos.line X.env = pure false := by rfl) (hw : swappedStores [tg] e X.env = pure none := by rfl) (h1 : (assignEach [tg] X.env).map (·.2) = [assign tg X.env] := by rfl) :
    PS X (.Assign [tg] e pos) (tS X.K Γ ⟨Γ1, eb, ec, er, et⟩ (sUnp f tgf)) := by rw [sUnp_eq]; exact zUnpM (mOfP he) hg hr hs hw h1
/-- x[j] = v -/
theorem zSetIx' (i : Nat) {o j e : Expr} {f : EM} {g : EF} {pos tpos : Pos} (ho : PE X o (tVar i)) (hj : PE X j (tP X.K Γ' .sh g)) (he : PE X e (tM X.K Γ Γ' .sh f)) (ht' : Γ'[i]? = some (.ol .sh))
    (ha : ∀ v, assign (.Subscript o j tpos) X.env v = (do
      let ov ← holding [v] (eval o X.env)
      let iv ← holding [v, ov] (eval j X.env)
      standAt tpos
      holding [v, ov, iv] (setItem ov iv v)
      release [v, ov, iv] []) := by intro _; rfl)
    (hs : swapsWithSole [.Subscript o j tpos] e pos.line X.env = pure false := by rfl) (hw : swappedStores [.Subscript o j tpos] e X.env = pure none := by rfl)
    (h1 : (assignEach [.Subscript o j tpos] X.env).map (·.2) = [assign (.Subscript o j tpos) X.env] := by rfl) :
    PS X (.Assign [.Subscript o j tpos] e pos) (tS X.K Γ ⟨Γ', eb, ec, er, et⟩ (sSetIx i f g)) := zSetIx i (ps_asg he (pg_sub ho hj set_list ha) hs hw h1) ht'
/-- weaker types -/
theorem cWk {e : Expr} {t : T} {f : EF} (h : PE X e (tC X.K Γ' t f)) (hw : wk Γ Γ' = true) : PE X e (tC X.K Γ t f) := h.imp fun σ H Q ⟨δ, Z, F, d, ok, e, k⟩ => by
  obtain ⟨F2, o2, sb⟩ := ok.weak hw
  exact ⟨δ, Z, F2, d, o2, e, k⟩
theorem pWk {e : Expr} {t : T} {f : EF} (h : PE X e (tP X.K Γ' t f)) (hw : wk Γ Γ' = true) : PE X e (tP X.K Γ t f) := h.imp fun σ H Q ⟨δ, Z, F, d, ok, e, k⟩ => by
  obtain ⟨F2, o2, sb⟩ := ok.weak hw
  exact ⟨δ, Z, F2, d, o2, e, k⟩
theorem mWk {e : Expr} {t : T} {f : EM} (h : PE X e (tM X.K Γ' Γ1 t f)) (hw : wk Γ Γ' = true) : PE X e (tM X.K Γ Γ1 t f) := h.imp fun σ H Q ⟨δ, Z, F, d, δ', ok, e, k⟩ => by
  obtain ⟨F2, o2, sb⟩ := ok.weak hw
  exact ⟨δ, Z, F2, d, δ', o2, e, fun v H' Z' F' g s o r nd dz => k v H' Z' F' g (s.wide fun a h => sb.subset h) o r nd dz⟩
/-- slots forgotten ahead of a block -/
theorem zDrp {sts : List Stmt} {f : SF} (h : PSs X sts (tS X.K Γ' ⟨en, eb, ec, er, et⟩ f)) (hw : wk Γ Γ' = true) : PSs X sts (tS X.K Γ ⟨en, eb, ec, er, et⟩ f) := h.imp fun W σ H ⟨δ, Z, F, out, ok, e, p⟩ => by
  obtain ⟨F2, o2, sb⟩ := ok.weak hw
  exact ⟨δ, Z, F2, out, o2, e, p.later (Stp.refl.sub fun a h => sb.subset h) (.refl _ _)⟩
theorem zDrp1 {st : Stmt} {f : SF} (h : PS X st (tS X.K Γ' ⟨en, eb, ec, er, et⟩ f)) (hw : wk Γ Γ' = true) : PS X st (tS X.K Γ ⟨en, eb, ec, er, et⟩ f) := h.imp fun W σ H ⟨δ, Z, F, out, ok, e, p⟩ => by
  obtain ⟨F2, o2, sb⟩ := ok.weak hw
  exact ⟨δ, Z, F2, out, o2, e, p.later (Stp.refl.sub fun a h => sb.subset h) (.refl _ _)⟩
end
end Pv

set_option Elab.async false
set_option linter.all false
set_option maxRecDepth 100000
/-! Pv12: calls by keywords alone; the bottom of all calls; the law's own end. -/
namespace Pv
open PySem PySem.Spec PyProof.Rows L2
/-- xs in another order -/
def ro {α : Type} (pm : List Nat) (xs : List α) : List α := pm.filterMap fun i => xs[i]?
def KwB (K : PySem.W.Frag) (fd : FuncData) (ps ks : List Str) (pm : List Nat) : Prop := ∀ (s : Shared) (ws : List Value), K.In s.heap → ws.length = ks.length → BindsTo s fd ⟨[], ks.zip ws⟩ (ps.zip (ro pm ws))
theorem KwB.of {K : PySem.W.Frag} {fd : FuncData} {ps ks : List Str} {pm : List Nat} (h : ∀ ws : List Value, ws.length = ks.length → bindArgs fd ⟨[], ks.zip ws⟩ = pure (ps.zip (ro pm ws))) : KwB K fd ps ks pm := fun s ws _ hl => .of_eq (h ws hl)
def xRo (pm : List Nat) (f : LF) : LF := fun δ => (f δ).map (ro pm)
section
variable {K : PySem.W.Frag} {X : Cx} {Γ Γ' Γ1 Γ2 Γ3 : List T} {H H' H1 H2 H3 : Hp} {Z Z' Z1 Z2 Z3 : FzT} {F F' F1 F2 : List Addr} {σ σ' σ1 : L2.St} {δ δ' : List D} {en eb ec er : List T} {et : T} {W W' : Ends}
theorem _root_.L2.PK.imp {e : List Keyword} {t t' : TA} (h : PK X e t) (i : ∀ σ H Q, t' σ H Q → t σ H Q) : PK X e t' := ⟨fun p pins s σ H Q I q => h.run p pins s σ H Q I (i _ _ _ q)⟩
theorem wNil : PK X [] (aP X.K Γ [] xNil) := pk_nil.imp fun σ H Q ⟨δ, Z, F, d, ok, e, k⟩ => by cases e; exact k [] H Z [] .refl .nil
theorem wCons {nm : Option Str} {kpos : Pos} {t : T} {ts : List T} {f : EF} {r : LF} {e : Expr} {kws : List Keyword} (ha : PE X e (tP X.K Γ t f)) (hr : PK X kws (aP X.K Γ ts r)) :
    PK X (⟨nm, e, kpos⟩ :: kws) (aP X.K Γ (t :: ts) (xCons f r)) := (pk_cons ha hr).imp fun σ H Q ⟨δ, Z, F, d, ok, e, k⟩ => by
  obtain ⟨x, ex, e⟩ := Option.bind_eq_some_iff.mp e
  obtain ⟨xs, exs, e⟩ := Option.bind_eq_some_iff.mp e
  cases e
  exact ⟨δ, Z, F, x, ok, ex, fun v H1 Z1 g1 s1 r1 => ⟨δ, Z1, F, xs, ok.ext s1, exs, fun vs H2 Z2 g2 s2 r2 => k (v :: vs) H2 Z2 _ (s1.trans s2) (.cons (r1.ext s2) r2)⟩⟩
theorem vals_ro : ∀ (pm : List Nat) {vs : List V} {us : List Value}, Vals vs us → Vals (ro pm vs) (ro pm us)
  | [], _, _, _ => .nil
  | i :: pm, vs, us, r => by
    unfold ro
    rw [List.filterMap_cons, List.filterMap_cons]
    cases e : vs[i]? with
    | none => rw [r.none_of e]; exact vals_ro pm r
    | some v =>
      obtain ⟨u, e2, r2⟩ := r.get e
      rw [e2]
      exact .cons r2 (vals_ro pm r)
theorem sha_ro : ∀ (pm : List Nat) {vs : List V} {ds : List D}, ShA K H Z vs ds → ShA K H Z (ro pm vs) (ro pm ds)
  | [], _, _, _ => .nil
  | i :: pm, vs, ds, r => by
    unfold ro
    rw [List.filterMap_cons, List.filterMap_cons]
    cases e : ds[i]? with
    | none =>
      have : vs[i]? = none := by rw [List.getElem?_eq_none_iff, r.len]; exact List.getElem?_eq_none_iff.mp e
      rw [this]; exact sha_ro pm r
    | some d =>
      obtain ⟨v, e2, r2⟩ := r.get e
      rw [e2]
      exact .cons r2 (sha_ro pm r)
theorem env_sh : ∀ {ts : List T} {vs : List V} {ds : List D}, ShA K H Z vs ds → ts.all (· == .sh) = true → ts.length = ds.length → Env K H Z ts (vs.map some) ds []
  | [], _, _, .nil, _, _ => .nil
  | _ :: _, _, _, .nil, _, l => by simp at l
  | [], _, _, .cons _ _, _, l => by simp at l
  | t :: ts, _, _, .cons h r, q, l => by
    rw [List.all_cons, Bool.and_eq_true] at q
    have e : t = .sh := by simpa using q.1
    subst e
    exact Env.cons (f := []) (.sh h) (env_sh r q.2 (by simpa using l))
/-- f(k = e, ..), keywords alone; shared data -/
theorem cCallK {k : Nat} {f : Addr} {fd : FuncData} {ps ks : List Str} {pm : List Nat} {S : FS} {x : Str} {p pos : Pos} {kws : List Keyword} {ts : List T} {fa : LF} (Fn : FnOk X.prog X.w X.K X.mg X.base CX0 k f fd ps (spF X.K S)) (hr : Room k X.A) (hg : Gl X x) (hm : X.mg x = some (.ref f)) (hk : PySem.W.keepIn X.K (.ref f) = true)
    (hb : KwB X.K fd ps ks pm) (ha : PK X kws (aP X.K Γ ts fa)) (ht : ts.all (· == .sh) = true) (hl : ts.length = ks.length) (hpm : ∀ ds : List D, ds.length = ks.length → (ro pm ds).length = S.ps.length) (h1 : S.ps.all (· == .sh) = true) (h2 : S.io.all (· == .no) = true)
    (hks : (backToKw pos (keywordEach kws X.env)).filterMap (·.1) = ks := by rfl) (hall : (backToKw pos (keywordEach kws X.env)).all (·.1.isSome) = true := by rfl) (hdb : (x == ("__debug__" : Str)) = false := by decide)
    (hpl : ((backTo pos (starEach [] X.env)).any (·.1) || (backToKw pos (keywordEach kws X.env)).any (·.1.isNone)) = false := by rfl) :
    PE X (.Call (.Name x p) [] kws pos) (tC X.K Γ S.t (xCall S.f (xRo pm fa))) := by
  refine ⟨fun pins s σ H Q I ⟨δ, Z, F, d, ok, e, kk⟩ => ?_⟩
  obtain ⟨ds', e1, e2⟩ := Option.bind_eq_some_iff.mp e
  obtain ⟨ds, e0, rfl⟩ := Option.map_eq_some_iff.mp e1
  obtain ⟨⟨d', dd⟩, e3, e4⟩ := Option.map_eq_some_iff.mp e2
  cases e4
  refine wpAny_Call_Name_kw (ld_glob I hg hm ?_ hdb)
  refine PySem.W.callWith_KW0 (h₀ := X.base) I.ok.mod.kin hk hall (thn (ha.run pos pins s σ H (fun zs H1 => ∃ Z1, Ext H Z H1 Z1 ∧ ShA X.K H1 Z1 zs ds ∧ (∀ a, Z1 a → H1 a ≠ none) ∧ ds.length = ts.length) I ⟨δ, Z, F, ds, ok, e0, fun vs H1 Z1 g s1 r1 => ⟨Z1, s1, Env.shA r1 ht, (ok.ext s1).zs, r1.len.2⟩⟩) fun ws s2 ⟨zs, H2, I2, rz, Z2, st, sa, zs2, ld⟩ => ⟨I2.kIn, ?_⟩) hpl
  rw [hks]
  have ld : ds.length = ks.length := ld.trans hl
  have lw : ws.length = ks.length := by rw [← rz.length, sa.len, ld]
  have sa2 := sha_ro pm sa
  have en := env_sh sa2 h1 (hpm ds ld).symm
  have rz2 := vals_ro pm rz
  refine wpAny_call (codeAny_mono (Fn.run X.A X.stack s2 H2 ⟨[], ks.zip ws⟩ (ro pm ws) (ro pm zs) Q (fun _ _ _ => False) hr I2.env0 (hb s2 ws I2.kIn lw) rz2 ⟨_, Z2, [], d', dd, ⟨en, .nil, (fun _ q => nomatch q), zs2⟩, e3, fun v H' Z' F' g' s' o r nd dz => ?_⟩) fun r s' hq => ?_)
  · have eF := o.env.nos h2
    subst eF
    refine kk v H' Z' g' (st.trans (s'.sub fun a q => nomatch q)) r (by simpa using nd) fun a ha => ⟨?_, dz a ha⟩
    rcases s'.own a ha with z | z
    · cases z
    · exact Same.free st.same z
  · cases r with
    | error e => exact False.elim hq
    | ok fl =>
      cases fl with
      | ret u => exact I2.after hq
      | next => exact False.elim hq
      | brk => exact False.elim hq
      | cont => exact False.elim hq
end
end Pv

set_option Elab.async false
set_option linter.all false
set_option maxRecDepth 100000
/-! Pv13: dicts. -/
namespace Pv
open PySem PySem.Spec PyProof.Rows L2
/-! ### setdefault of tuple keys -/
section
variable {X : Cx} {pins : List (Addr × Obj)} {σ : L2.St} {H : Hp} {s : Shared} {a b : Addr} {r : Value} {d : V} {k : List Key} {A : Around} {E : Value → Shared → Prop}
theorem d_setdT {kvs : List (List Key × V)} {Q : Value → Shared → Prop} (hu : A.units + 1 < cLine) (I : Inv X pins σ H s) (e : H a = some (.dT kvs)) (eb : H b = some (.tup (k.map kV))) (rd : RelV d r) (hl : kvs.length < sizeLine)
    (h1 : ∀ v, valV kvs k = some v → ∀ (w' : Value) (s' : Shared), Inv X pins σ H s' → RelV v w' → Q w' s') (h2 : valV kvs k = none → ∀ (w' : Value) (s' : Shared), Inv X pins σ (upd H a (.dT (putK kvs k d))) s' → RelV d w' → Q w' s') :
    wpAny (model X.prog X.w) A (call (.builtin "dict.setdefault") [.ref a, .ref b, r]) Q E s := by
  obtain ⟨z, hd, xs, rel, dd⟩ := dt_of I.hok e
  have hz : xs.length ≤ sizeLine := by
    rw [← Paired.length rel]
    exact z
  refine call_meetsIn PySem.F.slot_dict_setdefault dd.typeIs PySem.F.entry_dict_setdefault (PySem.F.args_dict_setdefault_3 _ _ _) (meetsH_dict_setdefault (tupleKind (mixKind X.prog X.w)) a b hd r) ⟨tupleKind_room_in1 hu, k, xs, key_of I.hok eb, dd, hz, fun p hp => ?_, fun hn h' dd' hs => ?_⟩
  · have q := rel.val k
    rw [hp] at q
    cases q0 : valV kvs k with
    | none =>
      rw [q0] at q
      exact (show False from q).elim
    | some v0 =>
      rw [q0] at q
      exact h1 v0 q0 _ _ (I.tok _) q
  · have q := rel.val k
    rw [hn] at q
    cases q0 : valV kvs k with
    | some v0 =>
      rw [q0] at q
      exact (show False from q).elim
    | none =>
      have hl2 : (putK kvs k d).length ≤ sizeLine := by
        have := length_putK kvs k d
        omega
      obtain ⟨q, es, ep, hq, g2, g3, g4, _, g5⟩ := dd'
      refine h2 q0 _ _ (d_write I (by rw [e]; exact True.intro) hs ⟨q, hq⟩ ⟨hl2, hd, _, (rel.put k eb rd).keeps fun c ys ec => ?_, q, es, ep, hq, g2, g3, g4, g5⟩) rd
      rw [upd_ne (ne_of ec e (fun z => nomatch z))]
      exact ec
end
def tDSetdT (td ty tx : TE) : TE := fun σ H Q => td σ H fun x H1 => ∃ a, x = .ref a ∧ IsD H1 a ∧ ty σ H1 fun y H2 => tx σ H2 fun z H3 => ∃ (kvs : List (List Key × V)) (k : List Key) (b : Addr), H3 a = some (.dT kvs) ∧ y = .ref b ∧ H3 b = some (.tup (k.map kV)) ∧ kvs.length < sizeLine ∧
  (∀ v, valV kvs k = some v → Q v H3) ∧ (valV kvs k = none → Q z (upd H3 a (.dT (putK kvs k z))))
section
variable {X : Cx} {o e f : Expr} {td ty tx : TE} {apos cpos : Pos}
theorem pe_dsetdT (hu : X.A.units + 1 < cLine) (ho : PE X o td) (he : PE X e ty) (hf : PE X f tx) (m : M2 X o "setdefault" apos e f cpos) : PE X (.Call (.Attribute o "setdefault" apos) [e, f] [] cpos) (tDSetdT td ty tx) := by
  refine ⟨fun pins s σ H Q I h => ?_⟩
  refine wpAny_Call_method m.base m.few m.line PySem.F.plainAttrs_dict PySem.F.slot_dict_setdefault PySem.F.type_dict_setdefault (thn (ho.run pins s σ H _ I h) fun u s1 ⟨x, H1, I1, rx, a, ex, d, q1⟩ => ?_)
  subst ex
  obtain rfl : u = Value.ref a := rx
  obtain ⟨t1, t2, _⟩ := isD_at I1 d
  refine ⟨t1, t2, ?_⟩
  rw [m.trees]
  refine Calls.callWith_builtin rfl (Calls.evalArgs_plain (Calls.spliced_cons (thn (he.run pins s1 σ H1 _ I1 q1) fun iv s2 ⟨y, H2, I2, ry, q2⟩ =>
    Calls.spliced_cons (thn (hf.run pins s2 σ H2 _ I2 q2) fun fv s3 ⟨z, H3, I3, rz, kvs, k, b, ea, ey, eb, hl, q3, q4⟩ => Calls.spliced_nil ?_))))
  subst ey
  obtain rfl : iv = Value.ref b := ry
  exact d_setdT hu I3 ea eb rz hl (fun v hv w' s4 I4 rw' => ⟨v, _, I4, rw', q3 v hv⟩) fun hn w' s4 I4 rw' => ⟨z, _, I4, rw', q4 hn⟩
end
/-! ### keys by their data -/
def ikey : D → Option Key
  | .int i => some (.inl i)
  | .str x => some (.inr x)
  | _ => none
def ikeys : List D → Option (List Key)
  | [] => some []
  | d :: ds => (ikey d).bind fun k => (ikeys ds).map (k :: ·)
def tkey : D → Option (List Key)
  | .tuple ds => ikeys ds
  | _ => none
theorem ikey_eq {d : D} {k : Key} (h : ikey d = some k) : d = kD k := by
  unfold ikey at h
  split at h
  · cases h; rfl
  · cases h; rfl
  · cases h
theorem ikeys_eq : ∀ {ds : List D} {k : List Key}, ikeys ds = some k → ds = k.map kD
  | [], k, h => by cases h; rfl
  | d :: ds, k, h => by
    obtain ⟨a, ea, h⟩ := Option.bind_eq_some_iff.mp h
    obtain ⟨b, eb, h⟩ := Option.map_eq_some_iff.mp h
    cases h
    rw [ikey_eq ea, ikeys_eq eb]
    rfl
theorem tkey_eq {d : D} {k : List Key} (h : tkey d = some k) : d = kTD k := by
  unfold tkey at h
  split at h
  · rw [ikeys_eq h]; rfl
  · cases h
theorem eqv_kD (a b : Key) : PyData.eqv (kD a) (kD b) = decide (a = b) := by
  cases a <;> cases b <;> simp [kD, PyData.eqv]
  all_goals first | (rw [Bool.eq_iff_iff]; simp) | rfl
theorem eqv_kDs : ∀ (a b : List Key), PyData.eqvAll (a.map kD) (b.map kD) = decide (a = b)
  | [], [] => rfl
  | _ :: _, [] => rfl
  | [], _ :: _ => rfl
  | x :: xs, y :: ys => by
    rw [List.map_cons, List.map_cons, PyData.eqvAll, eqv_kD, eqv_kDs xs ys]
    simp
theorem eqv_kTD (a b : List Key) : PyData.eqv (kTD a) (kTD b) = decide (a = b) := eqv_kDs a b
/-- the place of a key -/
def posD (kvd : List (D × D)) (k : D) : Option Nat := kvd.findIdx? fun p => PyData.eqv p.1 k
def getD' (kvd : List (D × D)) (k : D) : Option D := (posD kvd k).bind fun n => (kvd[n]?).map (·.2)
section
variable {κ : Type} [DecidableEq κ] {c : κ → D}
theorem posD_cons {p : D × D} {kvd : List (D × D)} {k : D} : posD (p :: kvd) k = if PyData.eqv p.1 k then some 0 else (posD kvd k).map (· + 1) := by
  unfold posD
  rw [List.findIdx?_cons]
theorem pos_some (hc : ∀ a b, PyData.eqv (c a) (c b) = decide (a = b)) : ∀ {kvs : List (κ × V)} {kvd : List (D × D)} {k : κ} {n : Nat}, kvd.map Prod.fst = kvs.map (fun p => c p.1) → posD kvd (c k) = some n → ∃ v, kvs[n]? = some (k, v) ∧ valV kvs k = some v ∧ n < kvd.length
  | [], [], k, n, _, h => by cases h
  | [], p :: kvd, _, _, e, _ => by simp at e
  | p :: kvs, [], _, _, e, _ => by simp at e
  | p :: kvs, q :: kvd, k, n, e, h => by
    rw [List.map_cons, List.map_cons, List.cons.injEq] at e
    rw [posD_cons, e.1, hc] at h
    by_cases hk : p.1 = k
    · rw [decide_eq_true hk, if_pos rfl] at h
      cases h
      exact ⟨p.2, by simp [← hk], valV_pos hk, by simp⟩
    · rw [decide_eq_false hk] at h
      simp only [Bool.false_eq_true, if_false] at h
      obtain ⟨m, em, rfl⟩ := Option.map_eq_some_iff.mp h
      obtain ⟨v, h1, h2, h3⟩ := pos_some hc e.2 em
      exact ⟨v, by simpa using h1, by rw [valV_neg hk]; exact h2, by simpa using h3⟩
theorem pos_none (hc : ∀ a b, PyData.eqv (c a) (c b) = decide (a = b)) : ∀ {kvs : List (κ × V)} {kvd : List (D × D)} {k : κ}, kvd.map Prod.fst = kvs.map (fun p => c p.1) → posD kvd (c k) = none → valV kvs k = none
  | [], [], k, _, _ => rfl
  | [], p :: kvd, _, e, _ => by simp at e
  | p :: kvs, [], _, e, _ => by simp at e
  | p :: kvs, q :: kvd, k, e, h => by
    rw [List.map_cons, List.map_cons, List.cons.injEq] at e
    rw [posD_cons, e.1, hc] at h
    by_cases hk : p.1 = k
    · rw [decide_eq_true hk, if_pos rfl] at h
      cases h
    · rw [decide_eq_false hk] at h
      simp only [Bool.false_eq_true, if_false] at h
      rw [valV_neg hk]
      exact pos_none hc e.2 (by simpa using h)
end
section
variable {K : PySem.W.Frag} {X : Cx} {Γ Γ' Γ1 Γ2 Γ3 : List T} {H H' H1 H2 H3 : Hp} {Z Z' Z1 Z2 Z3 : FzT} {F F' F1 F2 : List Addr} {σ σ' σ1 : L2.St} {δ δ' : List D} {en eb ec er : List T} {et : T} {W W' : Ends}
theorem sha_kV : ∀ {k : List Key} {vs : List V}, ShA K H Z vs (k.map kD) → vs = k.map kV
  | [], _, .nil => rfl
  | .inl i :: k, _, .cons h r => by
    have e := h.intOf
    subst e
    rw [sha_kV r]; rfl
  | .inr x :: k, _, .cons h r => by
    have e := h.strOf
    subst e
    rw [sha_kV r]; rfl
theorem Sh.keyT {v : V} {k : List Key} (h : Sh K H Z v (kTD k)) : ∃ b, v = .ref b ∧ H b = some (.tup (k.map kV)) := by
  cases h with
  | tup h r => exact ⟨_, rfl, by rw [h, sha_kV r]⟩
theorem Sh.keyK {v : V} {k : Key} (h : Sh K H Z v (kD k)) : v = kV k := by
  cases k with
  | inl i => exact h.intOf
  | inr x => exact h.strOf
/-- {} -/
def xDict0 : EF := fun _ => some (.dict [])
theorem cDNewK {t : T} {pos : Pos} : PE X (.Dict [] [] pos) (tC X.K Γ (.dk t) xDict0) := pe_dnewK.imp fun σ H Q ⟨δ, Z, F, d, ok, e, k⟩ => by
  cases e
  exact fun p hp => k _ _ Z [p] (Ext.new hp) (.dk (kvs := []) upd_same rfl .nil) (by simp) fun a ha => by
    simp only [List.mem_singleton] at ha
    subst ha
    exact ⟨hp, fun z => ok.zs _ z hp⟩
def xDict0T : EF := fun _ => some (dtD [])
theorem cDNewT {t : T} {pos : Pos} : PE X (.Dict [] [] pos) (tC X.K Γ (.dt t) xDict0T) := pe_dnewT.imp fun σ H Q ⟨δ, Z, F, d, ok, e, k⟩ => by
  cases e
  exact fun p hp => k _ _ Z [p] (Ext.new hp) (.dt (kvs := []) upd_same rfl .nil) (by simp) fun a ha => by
    simp only [List.mem_singleton] at ha
    subst ha
    exact ⟨hp, fun z => ok.zs _ z hp⟩
end
end Pv

set_option Elab.async false
set_option linter.all false
set_option maxRecDepth 100000
/-! Pv14: dicts in slots: setdefault, d[k] = v, frozen dicts (printed by dicts.py). -/
namespace Pv
open PySem PySem.Spec PyProof.Rows L2
def getDctK (δ : List D) (i : Nat) : Option (List (D × D)) := match δ[i]? with | some (.dict ds) => some ds | _ => none
theorem getDctK_eq {δ : List D} {i : Nat} {ds : List (D × D)} (h : getDctK δ i = some ds) : δ[i]? = some (.dict ds) := by
  unfold getDctK at h
  split at h
  · cases h; assumption
  · cases h
def getDctT (δ : List D) (i : Nat) : Option (List (D × D)) := match δ[i]? with | some (.dict ((.bool true, .none) :: ds)) => some ds | _ => none
theorem getDctT_eq {δ : List D} {i : Nat} {ds : List (D × D)} (h : getDctT δ i = some ds) : δ[i]? = some (dtD ds) := by
  unfold getDctT at h
  split at h
  · cases h; assumption
  · cases h
def sdK (kvd : List (D × D)) (k : D) : Option (List (D × D) × Nat) := if kvd.length < sizeLine then match posD kvd k with | some n => some (kvd, n) | none => some (kvd ++ [(k, .list [])], kvd.length) else none
/-- x.setdefault(k, []).append(e) -/
def xSdApp (dec : D → Bool) (get : List D → Nat → Option (List (D × D))) (mk : List (D × D) → D) (i : Nat) (fk fv : EF) : EM := fun δ => (fk δ).bind fun k => if dec k then (get δ i).bind fun kvd => (sdK kvd k).bind fun q => (fv (δ.set i (mk q.1))).bind fun y => match q.1[q.2]? with
  | some (kk, .list es) => if es.length < sizeLine then some (.none, δ.set i (mk (q.1.set q.2 (kk, .list (es ++ [y]))))) else none
  | _ => none else none
def xSdK : Nat → EF → EF → EM := xSdApp (fun d => (ikey d).isSome) getDctK .dict
def xSdT : Nat → EF → EF → EM := xSdApp (fun d => (tkey d).isSome) getDctT dtD
theorem map_fst_set {kvd : List (D × D)} {n : Nat} {k v w : D} (h : kvd[n]? = some (k, w)) : (kvd.set n (k, v)).map Prod.fst = kvd.map Prod.fst := by
  refine List.ext_getElem? fun j => ?_
  rw [List.getElem?_map, List.getElem?_map]
  by_cases hj : n = j
  · subst hj
    rw [List.getElem?_set_self (List.getElem?_eq_some_iff.mp h).1, h]
    rfl
  · rw [List.getElem?_set_ne hj]
theorem map_snd_set {kvd : List (D × D)} {n : Nat} {k v : D} : (kvd.set n (k, v)).map Prod.snd = (kvd.map Prod.snd).set n v := by
  rw [List.map_set]
section
variable {K : PySem.W.Frag} {X : Cx} {Γ Γ' Γ1 Γ2 Γ3 : List T} {H H' H1 H2 H3 : Hp} {Z Z' Z1 Z2 Z3 : FzT} {F F' F1 F2 : List Addr} {σ σ' σ1 : L2.St} {δ δ' : List D} {en eb ec er : List T} {et : T} {W W' : Ends}
theorem Stp.newF {p : Addr} {o : HO} (hp : H p = none) : Stp H Z F (L2.upd H p o) Z (F ++ [p]) :=
  let s : Stp H Z F (L2.upd H p o) Z F := (Ext.new hp).stp
  ⟨s.keep, s.mono, fun a h => (List.mem_append.mp h).elim (fun h => .inl h) fun h => .inr (by simp only [List.mem_singleton] at h; rw [h]; exact hp), s.frz, s.live, s.zs⟩
theorem RepA.upAt {t : T} {xs : List V} {ds : List D} {f : List Addr} {n : Nat} {d : D} {b : Addr} {o : HO} (su : Stp H Z [b] H' Z [b]) (mu : Mu H [b]) (dzb : ∀ x ∈ [b], ¬ Z x) {d' : D} {v : V} (nd : f.Nodup) (r : RepA K H Z t xs ds f) (h : ds[n]? = some d) (hv : xs[n]? = some v) (hd : Rep K H Z t v d [b]) (hb : b ∈ f → True)
    (q : ∀ f1 g f2, f = f1 ++ g ++ f2 → Rep K H Z t v d g → g = [b]) (r' : Rep K H' Z t v d' [b]) : RepA K H' Z t xs (ds.set n d') f := by
  obtain ⟨u, f1, gg, f2, hu, rfl, q1, qv, q2⟩ := r.at h
  rw [hv] at hu
  cases hu
  have eg := q f1 gg f2 rfl qv
  subst eg
  have hnl : n < ds.length := (List.getElem?_eq_some_iff.mp h).1
  have nb : ∀ x, x ∈ f1 ∨ x ∈ f2 → x ∉ [b] := fun x hx hz => by
    simp only [List.mem_singleton] at hz
    subst hz
    simp only [List.nodup_append, List.mem_append, List.mem_singleton] at nd
    obtain ⟨⟨_, _, n2⟩, _, n3⟩ := nd
    rcases hx with h | h
    · exact n2 x h x rfl rfl
    · exact n3 x (.inr rfl) x h rfl
  have p1 := q1.step su mu dzb fun x hx => nb x (.inl hx)
  have p2 := q2.step su mu dzb fun x hx => nb x (.inr hx)
  have := (p1.app (RepA.one r')).app p2
  rw [set_split hnl, nth_split hv]
  simpa [List.append_assoc] using this

/-! ### keys: ints and texts -/
theorem dOpnK {i : Nat} {t : T} {ds : List (D × D)} (o : Ok K Γ σ δ H Z F) (ht : Γ[i]? = some (.dk t)) (e : δ[i]? = some (.dict ds)) :
    ∃ a kvs f F1, σ[i]? = some (some (.ref a)) ∧ H a = some (.dK kvs) ∧ ds.map Prod.fst = kvs.map (fun p => kD p.1) ∧ RepA K H Z t (kvs.map Prod.snd) (ds.map Prod.snd) f ∧ Ok K (Γ.set i .no) σ δ H Z F1 ∧ (F1 ++ (a :: f)).Nodup ∧ ∀ x ∈ F1 ++ (a :: f), x ∈ F := by
  obtain ⟨v, F1, g, h1, h2, h3, h4, h5⟩ := o.take ht (fun z => nomatch z) e
  cases h2 with
  | dk ha hk r => exact ⟨_, _, _, F1, h1, ha, hk, r, h3, h4, h5⟩
theorem dPutK {i : Nat} {t : T} {a : Addr} {kvs kvs' : List (Key × V)} {ds' : List (D × D)} {f' : List Addr} (o1 : Ok K (Γ.set i .no) σ δ H Z F1) (hi : Γ[i]? = some (.dk t)) (hv : σ[i]? = some (some (.ref a))) (ha : H a = some (.dK kvs))
    (nd : (F1 ++ (a :: f')).Nodup) (dz : ∀ x ∈ a :: f', ¬ Z x) (ek : ds'.map Prod.fst = kvs'.map (fun p => kD p.1)) (r : RepA K (upd H a (.dK kvs')) Z t (kvs'.map Prod.snd) (ds'.map Prod.snd) f') : ∃ F', Ok K Γ σ (δ.set i (.dict ds')) (upd H a (.dK kvs')) Z F' ∧ ∀ x ∈ F', x ∈ F1 ++ (a :: f') := by
  have s : Stp H Z [a] (upd H a (.dK kvs')) Z [a] := Stp.upd (by simp)
  have m : Mu H [a] := fun x hx => by simp only [List.mem_singleton] at hx; subst hx; exact ⟨_, ha, rfl⟩
  have dza : ∀ x ∈ [a], ¬ Z x := fun x hx => dz x (by simp only [List.mem_singleton] at hx; rw [hx]; exact List.mem_cons_self)
  have nf1 : ∀ x ∈ F1, x ∉ [a] := fun x hx hz => nd_apart nd x (by simp only [List.mem_singleton] at hz; rw [hz]; exact List.mem_cons_self) hx
  have o2 : Ok K (Γ.set i .no) σ δ (upd H a (.dK kvs')) Z F1 := ⟨o1.env.step s m dza nf1, o1.nd, o1.dz, fun x hx => upd_live (o1.zs x hx)⟩
  have rr : Rep K (upd H a (.dK kvs')) Z (.dk t) (.ref a) (.dict ds') (a :: f') := .dk upd_same ek r
  have hl : i < (Γ.set i .no).length := by rw [List.length_set]; exact (List.getElem?_eq_some_iff.mp hi).1
  obtain ⟨F', o3, sb⟩ := o2.set hl rr nd dz
  rw [set_self hv, List.set_set, set_self hi] at o3
  exact ⟨F', o3, sb⟩
/-- the list at a key gets one item more -/
theorem nestK {i n : Nat} {a : Addr} {kvs : List (Key × V)} {ds : List (D × D)} {kk : D} {es : List D} (o : Ok K Γ σ δ H Z F) (ht : Γ[i]? = some (.dk (.ol .sh))) (e : δ[i]? = some (.dict ds)) (en : ds[n]? = some (kk, .list es)) (hv : σ[i]? = some (some (.ref a))) (ha : H a = some (.dK kvs)) :
    ∃ b ys k, kvs[n]? = some (k, .ref b) ∧ H b = some (.lst ys) ∧ ys.length = es.length ∧ b ∈ F ∧ ∀ v y, Sh K H Z v y → ∃ F', Ok K Γ σ (δ.set i (.dict (ds.set n (kk, .list (es ++ [y]))))) (upd H b (.lst (ys ++ [v]))) Z F' ∧ ∀ x ∈ F', x ∈ F := by
  obtain ⟨a', kvs', fs, F2, hv', ha', ek, ra, o2, nd2, sb2⟩ := dOpnK o ht e
  rw [hv] at hv'
  have ea : a = a' := by simpa using hv'
  subst ea
  rw [ha] at ha'
  cases ha'
  have en' : (ds.map Prod.snd)[n]? = some (.list es) := by rw [List.getElem?_map, en]; rfl
  obtain ⟨u, f1, gg, f2, hu, rfl, q1, qv, q2⟩ := ra.at en'
  obtain ⟨b, ys, es', fb, rfl, ee, rfl, hb, rb⟩ := ofList qv
  cases ee
  obtain ⟨sb', rfl⟩ := rb.shA
  obtain ⟨⟨k, u'⟩, hk, hu'⟩ : ∃ p, kvs[n]? = some p ∧ p.2 = .ref b := by
    rw [List.getElem?_map] at hu
    exact Option.map_eq_some_iff.mp hu
  cases hu'
  have bF : b ∈ F := sb2 b (by simp)
  refine ⟨b, ys, k, hk, hb, sb'.len, bF, fun v y rv => ?_⟩
  have su : Stp H Z [b] (upd H b (.lst (ys ++ [v]))) Z [b] := Stp.upd (by simp)
  have mu : Mu H [b] := Mu.one hb
  have dzb : ∀ x ∈ [b], ¬ Z x := fun x hx => by simp only [List.mem_singleton] at hx; rw [hx]; exact o.dz b bF
  have nd3 := nd2
  have nb : ∀ x, x ∈ F2 ∨ x = a ∨ x ∈ f1 ∨ x ∈ f2 → x ∉ [b] := fun x hx hz => by
    simp only [List.mem_singleton] at hz
    subst hz
    simp only [List.nodup_append, List.nodup_cons, List.mem_append, List.mem_cons, List.mem_singleton, List.not_mem_nil, or_false] at nd3
    obtain ⟨_, ⟨n1, ⟨⟨_, _, n2⟩, _, n3⟩⟩, n4⟩ := nd3
    rcases hx with h | h | h | h
    · exact n4 x h x (.inr (.inl (.inr rfl))) rfl
    · exact n1 (.inl (.inr h.symm))
    · exact n2 x h x rfl rfl
    · exact n3 x (.inr rfl) x h rfl
  have o4 : Ok K (Γ.set i .no) σ δ (upd H b (.lst (ys ++ [v]))) Z F2 := ⟨o2.env.step su mu dzb fun x hx => nb x (.inl hx), o2.nd, o2.dz, fun x hx => upd_live (o2.zs x hx)⟩
  have ha3 : (upd H b (.lst (ys ++ [v]))) a = some (.dK kvs) := by rw [upd_ne (fun z => nb a (.inr (.inl rfl)) (by simp [z]))]; exact ha
  have rN : RepA K (upd H b (.lst (ys ++ [v]))) Z (.ol .sh) (kvs.map Prod.snd) ((ds.set n (kk, .list (es ++ [y]))).map Prod.snd) (f1 ++ [b] ++ f2) := by
    have p1 := q1.step su mu dzb fun x hx => nb x (.inr (.inr (.inl hx)))
    have p2 := q2.step su mu dzb fun x hx => nb x (.inr (.inr (.inr hx)))
    have pm : Rep K (upd H b (.lst (ys ++ [v]))) Z (.ol .sh) (.ref b) (.list (es ++ [y])) [b] := .ol upd_same (((sb'.app (.cons rv .nil)).step su mu dzb).repA)
    have := (p1.app (RepA.one pm)).app p2
    rw [map_snd_set, set_split (List.getElem?_eq_some_iff.mp en').1]
    rw [nth_split hu]
    simpa [List.append_assoc] using this
  have rA : Rep K (upd H b (.lst (ys ++ [v]))) Z (.dk (.ol .sh)) (.ref a) (.dict (ds.set n (kk, .list (es ++ [y])))) (a :: (f1 ++ [b] ++ f2)) := .dk ha3 (by rw [map_fst_set en]; exact ek) rN
  have hl : i < (Γ.set i .no).length := by rw [List.length_set]; exact (List.getElem?_eq_some_iff.mp ht).1
  obtain ⟨F3, o5, sb5⟩ := o4.set hl rA nd3 fun x hx => o.dz x (sb2 x (List.mem_append_right _ hx))
  rw [set_self hv, List.set_set, set_self ht] at o5
  exact ⟨F3, o5, fun x hx => sb2 x (sb5 x hx)⟩
/-- x.setdefault(k, []).append(e) -/
theorem mSdK (i : Nat) {c : Expr} {fk fv : EF} (h : PE X c (tBM X.K "list" rAppend (tDSetd (tVar i) (tP X.K Γ .sh fk) (tLst tNil)) (tCons (tP X.K Γ .sh fv) tNil))) (ht : Γ[i]? = some (.dk (.ol .sh))) : PE X c (tM X.K Γ Γ .sh (xSdK i fk fv)) :=
  h.imp fun σ H Q ⟨δ, Z, F, d, δ', ok, e, k⟩ => by
  obtain ⟨kd, e1, e2⟩ := Option.bind_eq_some_iff.mp e
  split at e2
  · rename_i hdec
    obtain ⟨ky, hky⟩ := Option.isSome_iff_exists.mp hdec
    have ekd := ikey_eq hky
    subst ekd
    obtain ⟨kvd, e3, e4⟩ := Option.bind_eq_some_iff.mp e2
    obtain ⟨⟨kvd1, n⟩, e5, e6⟩ := Option.bind_eq_some_iff.mp e4
    obtain ⟨y, e7, e8⟩ := Option.bind_eq_some_iff.mp e6
    simp only at e8 e7
    split at e8
    · rename_i kk es hes
      split at e8
      · rename_i hlt
        cases e8
        obtain ⟨a, kvs, fs, F2, hv, ha, ek, ra, o2, nd2, sb2⟩ := dOpnK ok ht (getDctK_eq e3)
        refine ⟨.ref a, hv, a, rfl, .inl ⟨kvs, .inl ha⟩, δ, Z, F, kD ky, ok, e1, fun kv H1 Z1 g1 s1 r1 => ⟨Nat.zero_le _, fun p hp => ?_⟩⟩
        have s2 : Ext H Z (upd H1 p (.lst [])) Z1 := s1.trans (Ext.new hp)
        have ok2 := ok.ext s2
        have ha2 := s2.keep a _ ha (by simp)
        have sk : Sh X.K (upd H1 p (.lst [])) Z1 kv (kD ky) := (r1.ext (Ext.new hp)).shOf.1
        unfold sdK at e5
        split at e5
        · rename_i hz
          have hzl : kvs.length < sizeLine := by
            have l1 := congrArg List.length ek
            rw [List.length_map, List.length_map] at l1
            rw [← l1]
            exact hz
          -- what follows from the heap with the list in its place
          have tail : ∀ (b : Addr) (H3 : Hp) (F3 : List Addr) (kvs1 : List (Key × V)), Ok X.K Γ σ (δ.set i (.dict kvd1)) H3 Z1 F3 → Stp H Z F H3 Z1 F3 → H3 a = some (.dK kvs1) → (∃ k, kvs1[n]? = some (k, .ref b)) →
              tyV X.K "list" (.ref b) H3 ∧ tCons (tP X.K Γ .sh fv) tNil σ H3 fun xs H2 => rAppend (.ref b) xs H2 Q := fun b H3 F3 kvs1 o3 st3 ha3 ⟨k0, hk0⟩ => by
            have hi : i < δ.length := (List.getElem?_eq_some_iff.mp (getDctK_eq e3)).1
            obtain ⟨b', ys, k', h1, h2, h3, h4, h5⟩ := nestK o3 ht (List.getElem?_set_self hi) hes hv ha3
            rw [hk0] at h1
            cases h1
            refine ⟨.inl ⟨rfl, ys, SqL.of h2⟩, δ.set i (.dict kvd1), Z1, F3, y, o3, e7, fun v H4 Z4 g4 s4 r4 => ?_⟩
            obtain ⟨b'', ys', k'', h1, h2', h3', h4', h5'⟩ := nestK (o3.ext s4) ht (List.getElem?_set_self hi) hes hv (s4.keep a _ ha3 (by simp))
            rw [hk0] at h1
            cases h1
            obtain ⟨F5, o5, sb5⟩ := h5' v y r4.shOf.1
            rw [List.set_set] at o5
            refine ⟨b, ys', v, rfl, rfl, h2', by rw [h3']; exact hlt, k .non _ Z4 F5 [] ?_ o5 (.sh .non) (by simpa using o5.nd) (fun _ q => nomatch q)⟩
            exact ((st3.trans s4.stp).trans (Stp.upd h4')).sub fun x hx => sb5 x (by simpa using hx)
          obtain rfl := sk.keyK
          refine ⟨kvs, ky, ha2, rfl, hzl, ?_, ?_⟩
          · intro v hv2
            cases ep : posD kvd (kD ky) with
            | none => rw [pos_none eqv_kD ek ep] at hv2; cases hv2
            | some m =>
              rw [ep] at e5
              cases e5
              obtain ⟨v', hn, hv3, _⟩ := pos_some eqv_kD ek ep
              rw [hv2] at hv3
              cases hv3
              have eδ := set_self (getDctK_eq e3)
              have o3 := ok2
              rw [← eδ] at o3
              obtain ⟨b, ys, k', h1, _⟩ := nestK (by rw [eδ] at o3; exact o3) ht (getDctK_eq e3) hes hv ha2
              rw [hn] at h1
              cases h1
              exact tail b _ F kvs o3 s2.stp ha2 ⟨_, hn⟩
          · intro hn2
            cases ep : posD kvd (kD ky) with
            | some m => obtain ⟨v', hn, hv3, _⟩ := pos_some eqv_kD ek ep; rw [hn2] at hv3; cases hv3
            | none =>
              rw [ep] at e5
              cases e5
              rw [putK_new _ hn2]
              have np : ∀ x ∈ F2 ++ a :: fs, x ≠ p := fun x hx z => by
                subst z
                exact ok.mu.some (sb2 x hx) (Same.free s1.same hp)
              have nap : a ≠ p := np a (by simp)
              have o2' := o2.ext s2
              have nd4 : (F2 ++ (a :: (fs ++ [p]))).Nodup := by
                have : ((F2 ++ a :: fs) ++ [p]).Nodup := nd_of nd2 (by simp) fun x hx hz => by
                  simp only [List.mem_singleton] at hx
                  exact np x hz hx
                simpa [List.append_assoc] using this
              have dz4 : ∀ x ∈ a :: (fs ++ [p]), ¬ Z1 x := fun x hx hz => by
                rcases List.mem_cons.mp hx with h | h
                · exact ok2.dz x (sb2 x (by simp [h])) hz
                · rcases List.mem_append.mp h with h | h
                  · exact ok2.dz x (sb2 x (by simp [h])) hz
                  · simp only [List.mem_singleton] at h
                    subst h
                    exact (ok.ext s1).zs x hz hp
              have su : Stp (upd H1 p (.lst [])) Z1 [a] (upd (upd H1 p (.lst [])) a (.dK (kvs ++ [(ky, .ref p)]))) Z1 [a] := Stp.upd (by simp)
              have mu : Mu (upd H1 p (.lst [])) [a] := fun x hx => by simp only [List.mem_singleton] at hx; subst hx; exact ⟨_, ha2, rfl⟩
              have dza : ∀ x ∈ [a], ¬ Z1 x := fun x hx => by simp only [List.mem_singleton] at hx; subst hx; exact dz4 x (by simp)
              have nda : a ∉ fs := (List.nodup_cons.mp (List.nodup_append.mp nd2).2.1).1
              have rOld := (ra.ext s2).step su mu dza fun x hx hz => nda (by simp only [List.mem_singleton] at hz; rw [hz] at hx; exact hx)
              have rp : Rep X.K (upd (upd H1 p (.lst [])) a (.dK (kvs ++ [(ky, .ref p)]))) Z1 (.ol .sh) (.ref p) (.list []) [p] := .ol (by rw [upd_ne nap.symm, upd_same]) .nil
              obtain ⟨F3, o3, sb3⟩ := dPutK (kvs' := kvs ++ [(ky, .ref p)]) (ds' := kvd ++ [(kD ky, .list [])]) o2' ht hv ha2 nd4 dz4 (by rw [List.map_append, List.map_append, ek]; rfl) (by rw [List.map_append, List.map_append]; exact rOld.app (RepA.one rp))
              refine tail p _ F3 _ o3 ?_ upd_same ⟨ky, ?_⟩
              · refine ((s1.stp.trans (Stp.newF hp)).trans (Stp.upd (F := F ++ [p]) (by simp [sb2 a (by simp)]))).sub fun x hx => ?_
                have := sb3 x hx
                simp only [List.mem_append, List.mem_cons, List.mem_singleton] at this ⊢
                rcases this with h | h | h | h
                · exact .inl (sb2 x (by simp [h]))
                · exact .inl (sb2 x (by simp [h]))
                · exact .inl (sb2 x (by simp [h]))
                · exact .inr (by simpa using h)
              · have l1 := congrArg List.length ek
                rw [List.length_map, List.length_map] at l1
                rw [l1, List.getElem?_append_right (Nat.le_refl _), Nat.sub_self]
                rfl
        · cases e5
      · cases e8
    · cases e8
  · cases e2

/-! ### keys: tuples of ints and texts -/
theorem dOpnT {i : Nat} {t : T} {ds : List (D × D)} (o : Ok K Γ σ δ H Z F) (ht : Γ[i]? = some (.dt t)) (e : δ[i]? = some (dtD ds)) :
    ∃ a kvs f F1, σ[i]? = some (some (.ref a)) ∧ H a = some (.dT kvs) ∧ ds.map Prod.fst = kvs.map (fun p => kTD p.1) ∧ RepA K H Z t (kvs.map Prod.snd) (ds.map Prod.snd) f ∧ Ok K (Γ.set i .no) σ δ H Z F1 ∧ (F1 ++ (a :: f)).Nodup ∧ ∀ x ∈ F1 ++ (a :: f), x ∈ F := by
  obtain ⟨v, F1, g, h1, h2, h3, h4, h5⟩ := o.take ht (fun z => nomatch z) e
  cases h2 with
  | dt ha hk r => exact ⟨_, _, _, F1, h1, ha, hk, r, h3, h4, h5⟩
theorem dPutT {i : Nat} {t : T} {a : Addr} {kvs kvs' : List (List Key × V)} {ds' : List (D × D)} {f' : List Addr} (o1 : Ok K (Γ.set i .no) σ δ H Z F1) (hi : Γ[i]? = some (.dt t)) (hv : σ[i]? = some (some (.ref a))) (ha : H a = some (.dT kvs))
    (nd : (F1 ++ (a :: f')).Nodup) (dz : ∀ x ∈ a :: f', ¬ Z x) (ek : ds'.map Prod.fst = kvs'.map (fun p => kTD p.1)) (r : RepA K (upd H a (.dT kvs')) Z t (kvs'.map Prod.snd) (ds'.map Prod.snd) f') : ∃ F', Ok K Γ σ (δ.set i (dtD ds')) (upd H a (.dT kvs')) Z F' ∧ ∀ x ∈ F', x ∈ F1 ++ (a :: f') := by
  have s : Stp H Z [a] (upd H a (.dT kvs')) Z [a] := Stp.upd (by simp)
  have m : Mu H [a] := fun x hx => by simp only [List.mem_singleton] at hx; subst hx; exact ⟨_, ha, rfl⟩
  have dza : ∀ x ∈ [a], ¬ Z x := fun x hx => dz x (by simp only [List.mem_singleton] at hx; rw [hx]; exact List.mem_cons_self)
  have nf1 : ∀ x ∈ F1, x ∉ [a] := fun x hx hz => nd_apart nd x (by simp only [List.mem_singleton] at hz; rw [hz]; exact List.mem_cons_self) hx
  have o2 : Ok K (Γ.set i .no) σ δ (upd H a (.dT kvs')) Z F1 := ⟨o1.env.step s m dza nf1, o1.nd, o1.dz, fun x hx => upd_live (o1.zs x hx)⟩
  have rr : Rep K (upd H a (.dT kvs')) Z (.dt t) (.ref a) (dtD ds') (a :: f') := .dt upd_same ek r
  have hl : i < (Γ.set i .no).length := by rw [List.length_set]; exact (List.getElem?_eq_some_iff.mp hi).1
  obtain ⟨F', o3, sb⟩ := o2.set hl rr nd dz
  rw [set_self hv, List.set_set, set_self hi] at o3
  exact ⟨F', o3, sb⟩
/-- the list at a key gets one item more -/
theorem nestT {i n : Nat} {a : Addr} {kvs : List (List Key × V)} {ds : List (D × D)} {kk : D} {es : List D} (o : Ok K Γ σ δ H Z F) (ht : Γ[i]? = some (.dt (.ol .sh))) (e : δ[i]? = some (dtD ds)) (en : ds[n]? = some (kk, .list es)) (hv : σ[i]? = some (some (.ref a))) (ha : H a = some (.dT kvs)) :
    ∃ b ys k, kvs[n]? = some (k, .ref b) ∧ H b = some (.lst ys) ∧ ys.length = es.length ∧ b ∈ F ∧ ∀ v y, Sh K H Z v y → ∃ F', Ok K Γ σ (δ.set i (dtD (ds.set n (kk, .list (es ++ [y]))))) (upd H b (.lst (ys ++ [v]))) Z F' ∧ ∀ x ∈ F', x ∈ F := by
  obtain ⟨a', kvs', fs, F2, hv', ha', ek, ra, o2, nd2, sb2⟩ := dOpnT o ht e
  rw [hv] at hv'
  have ea : a = a' := by simpa using hv'
  subst ea
  rw [ha] at ha'
  cases ha'
  have en' : (ds.map Prod.snd)[n]? = some (.list es) := by rw [List.getElem?_map, en]; rfl
  obtain ⟨u, f1, gg, f2, hu, rfl, q1, qv, q2⟩ := ra.at en'
  obtain ⟨b, ys, es', fb, rfl, ee, rfl, hb, rb⟩ := ofList qv
  cases ee
  obtain ⟨sb', rfl⟩ := rb.shA
  obtain ⟨⟨k, u'⟩, hk, hu'⟩ : ∃ p, kvs[n]? = some p ∧ p.2 = .ref b := by
    rw [List.getElem?_map] at hu
    exact Option.map_eq_some_iff.mp hu
  cases hu'
  have bF : b ∈ F := sb2 b (by simp)
  refine ⟨b, ys, k, hk, hb, sb'.len, bF, fun v y rv => ?_⟩
  have su : Stp H Z [b] (upd H b (.lst (ys ++ [v]))) Z [b] := Stp.upd (by simp)
  have mu : Mu H [b] := Mu.one hb
  have dzb : ∀ x ∈ [b], ¬ Z x := fun x hx => by simp only [List.mem_singleton] at hx; rw [hx]; exact o.dz b bF
  have nd3 := nd2
  have nb : ∀ x, x ∈ F2 ∨ x = a ∨ x ∈ f1 ∨ x ∈ f2 → x ∉ [b] := fun x hx hz => by
    simp only [List.mem_singleton] at hz
    subst hz
    simp only [List.nodup_append, List.nodup_cons, List.mem_append, List.mem_cons, List.mem_singleton, List.not_mem_nil, or_false] at nd3
    obtain ⟨_, ⟨n1, ⟨⟨_, _, n2⟩, _, n3⟩⟩, n4⟩ := nd3
    rcases hx with h | h | h | h
    · exact n4 x h x (.inr (.inl (.inr rfl))) rfl
    · exact n1 (.inl (.inr h.symm))
    · exact n2 x h x rfl rfl
    · exact n3 x (.inr rfl) x h rfl
  have o4 : Ok K (Γ.set i .no) σ δ (upd H b (.lst (ys ++ [v]))) Z F2 := ⟨o2.env.step su mu dzb fun x hx => nb x (.inl hx), o2.nd, o2.dz, fun x hx => upd_live (o2.zs x hx)⟩
  have ha3 : (upd H b (.lst (ys ++ [v]))) a = some (.dT kvs) := by rw [upd_ne (fun z => nb a (.inr (.inl rfl)) (by simp [z]))]; exact ha
  have rN : RepA K (upd H b (.lst (ys ++ [v]))) Z (.ol .sh) (kvs.map Prod.snd) ((ds.set n (kk, .list (es ++ [y]))).map Prod.snd) (f1 ++ [b] ++ f2) := by
    have p1 := q1.step su mu dzb fun x hx => nb x (.inr (.inr (.inl hx)))
    have p2 := q2.step su mu dzb fun x hx => nb x (.inr (.inr (.inr hx)))
    have pm : Rep K (upd H b (.lst (ys ++ [v]))) Z (.ol .sh) (.ref b) (.list (es ++ [y])) [b] := .ol upd_same (((sb'.app (.cons rv .nil)).step su mu dzb).repA)
    have := (p1.app (RepA.one pm)).app p2
    rw [map_snd_set, set_split (List.getElem?_eq_some_iff.mp en').1]
    rw [nth_split hu]
    simpa [List.append_assoc] using this
  have rA : Rep K (upd H b (.lst (ys ++ [v]))) Z (.dt (.ol .sh)) (.ref a) (dtD (ds.set n (kk, .list (es ++ [y])))) (a :: (f1 ++ [b] ++ f2)) := .dt ha3 (by rw [map_fst_set en]; exact ek) rN
  have hl : i < (Γ.set i .no).length := by rw [List.length_set]; exact (List.getElem?_eq_some_iff.mp ht).1
  obtain ⟨F3, o5, sb5⟩ := o4.set hl rA nd3 fun x hx => o.dz x (sb2 x (List.mem_append_right _ hx))
  rw [set_self hv, List.set_set, set_self ht] at o5
  exact ⟨F3, o5, fun x hx => sb2 x (sb5 x hx)⟩
/-- x.setdefault(k, []).append(e) -/
theorem mSdT (i : Nat) {c : Expr} {fk fv : EF} (h : PE X c (tBM X.K "list" rAppend (tDSetdT (tVar i) (tP X.K Γ .sh fk) (tLst tNil)) (tCons (tP X.K Γ .sh fv) tNil))) (ht : Γ[i]? = some (.dt (.ol .sh))) : PE X c (tM X.K Γ Γ .sh (xSdT i fk fv)) :=
  h.imp fun σ H Q ⟨δ, Z, F, d, δ', ok, e, k⟩ => by
  obtain ⟨kd, e1, e2⟩ := Option.bind_eq_some_iff.mp e
  split at e2
  · rename_i hdec
    obtain ⟨ky, hky⟩ := Option.isSome_iff_exists.mp hdec
    have ekd := tkey_eq hky
    subst ekd
    obtain ⟨kvd, e3, e4⟩ := Option.bind_eq_some_iff.mp e2
    obtain ⟨⟨kvd1, n⟩, e5, e6⟩ := Option.bind_eq_some_iff.mp e4
    obtain ⟨y, e7, e8⟩ := Option.bind_eq_some_iff.mp e6
    simp only at e8 e7
    split at e8
    · rename_i kk es hes
      split at e8
      · rename_i hlt
        cases e8
        obtain ⟨a, kvs, fs, F2, hv, ha, ek, ra, o2, nd2, sb2⟩ := dOpnT ok ht (getDctT_eq e3)
        refine ⟨.ref a, hv, a, rfl, .inr ⟨kvs, .inl ha⟩, δ, Z, F, kTD ky, ok, e1, fun kv H1 Z1 g1 s1 r1 => ⟨Nat.zero_le _, fun p hp => ?_⟩⟩
        have s2 : Ext H Z (upd H1 p (.lst [])) Z1 := s1.trans (Ext.new hp)
        have ok2 := ok.ext s2
        have ha2 := s2.keep a _ ha (by simp)
        have sk : Sh X.K (upd H1 p (.lst [])) Z1 kv (kTD ky) := (r1.ext (Ext.new hp)).shOf.1
        unfold sdK at e5
        split at e5
        · rename_i hz
          have hzl : kvs.length < sizeLine := by
            have l1 := congrArg List.length ek
            rw [List.length_map, List.length_map] at l1
            rw [← l1]
            exact hz
          -- what follows from the heap with the list in its place
          have tail : ∀ (b : Addr) (H3 : Hp) (F3 : List Addr) (kvs1 : List (List Key × V)), Ok X.K Γ σ (δ.set i (dtD kvd1)) H3 Z1 F3 → Stp H Z F H3 Z1 F3 → H3 a = some (.dT kvs1) → (∃ k, kvs1[n]? = some (k, .ref b)) →
              tyV X.K "list" (.ref b) H3 ∧ tCons (tP X.K Γ .sh fv) tNil σ H3 fun xs H2 => rAppend (.ref b) xs H2 Q := fun b H3 F3 kvs1 o3 st3 ha3 ⟨k0, hk0⟩ => by
            have hi : i < δ.length := (List.getElem?_eq_some_iff.mp (getDctT_eq e3)).1
            obtain ⟨b', ys, k', h1, h2, h3, h4, h5⟩ := nestT o3 ht (List.getElem?_set_self hi) hes hv ha3
            rw [hk0] at h1
            cases h1
            refine ⟨.inl ⟨rfl, ys, SqL.of h2⟩, δ.set i (dtD kvd1), Z1, F3, y, o3, e7, fun v H4 Z4 g4 s4 r4 => ?_⟩
            obtain ⟨b'', ys', k'', h1, h2', h3', h4', h5'⟩ := nestT (o3.ext s4) ht (List.getElem?_set_self hi) hes hv (s4.keep a _ ha3 (by simp))
            rw [hk0] at h1
            cases h1
            obtain ⟨F5, o5, sb5⟩ := h5' v y r4.shOf.1
            rw [List.set_set] at o5
            refine ⟨b, ys', v, rfl, rfl, h2', by rw [h3']; exact hlt, k .non _ Z4 F5 [] ?_ o5 (.sh .non) (by simpa using o5.nd) (fun _ q => nomatch q)⟩
            exact ((st3.trans s4.stp).trans (Stp.upd h4')).sub fun x hx => sb5 x (by simpa using hx)
          obtain ⟨bk, rfl, hbk⟩ := sk.keyT
          refine ⟨kvs, ky, bk, ha2, rfl, hbk, hzl, ?_, ?_⟩
          · intro v hv2
            cases ep : posD kvd (kTD ky) with
            | none => rw [pos_none eqv_kTD ek ep] at hv2; cases hv2
            | some m =>
              rw [ep] at e5
              cases e5
              obtain ⟨v', hn, hv3, _⟩ := pos_some eqv_kTD ek ep
              rw [hv2] at hv3
              cases hv3
              have eδ := set_self (getDctT_eq e3)
              have o3 := ok2
              rw [← eδ] at o3
              obtain ⟨b, ys, k', h1, _⟩ := nestT (by rw [eδ] at o3; exact o3) ht (getDctT_eq e3) hes hv ha2
              rw [hn] at h1
              cases h1
              exact tail b _ F kvs o3 s2.stp ha2 ⟨_, hn⟩
          · intro hn2
            cases ep : posD kvd (kTD ky) with
            | some m => obtain ⟨v', hn, hv3, _⟩ := pos_some eqv_kTD ek ep; rw [hn2] at hv3; cases hv3
            | none =>
              rw [ep] at e5
              cases e5
              rw [putK_new _ hn2]
              have np : ∀ x ∈ F2 ++ a :: fs, x ≠ p := fun x hx z => by
                subst z
                exact ok.mu.some (sb2 x hx) (Same.free s1.same hp)
              have nap : a ≠ p := np a (by simp)
              have o2' := o2.ext s2
              have nd4 : (F2 ++ (a :: (fs ++ [p]))).Nodup := by
                have : ((F2 ++ a :: fs) ++ [p]).Nodup := nd_of nd2 (by simp) fun x hx hz => by
                  simp only [List.mem_singleton] at hx
                  exact np x hz hx
                simpa [List.append_assoc] using this
              have dz4 : ∀ x ∈ a :: (fs ++ [p]), ¬ Z1 x := fun x hx hz => by
                rcases List.mem_cons.mp hx with h | h
                · exact ok2.dz x (sb2 x (by simp [h])) hz
                · rcases List.mem_append.mp h with h | h
                  · exact ok2.dz x (sb2 x (by simp [h])) hz
                  · simp only [List.mem_singleton] at h
                    subst h
                    exact (ok.ext s1).zs x hz hp
              have su : Stp (upd H1 p (.lst [])) Z1 [a] (upd (upd H1 p (.lst [])) a (.dT (kvs ++ [(ky, .ref p)]))) Z1 [a] := Stp.upd (by simp)
              have mu : Mu (upd H1 p (.lst [])) [a] := fun x hx => by simp only [List.mem_singleton] at hx; subst hx; exact ⟨_, ha2, rfl⟩
              have dza : ∀ x ∈ [a], ¬ Z1 x := fun x hx => by simp only [List.mem_singleton] at hx; subst hx; exact dz4 x (by simp)
              have nda : a ∉ fs := (List.nodup_cons.mp (List.nodup_append.mp nd2).2.1).1
              have rOld := (ra.ext s2).step su mu dza fun x hx hz => nda (by simp only [List.mem_singleton] at hz; rw [hz] at hx; exact hx)
              have rp : Rep X.K (upd (upd H1 p (.lst [])) a (.dT (kvs ++ [(ky, .ref p)]))) Z1 (.ol .sh) (.ref p) (.list []) [p] := .ol (by rw [upd_ne nap.symm, upd_same]) .nil
              obtain ⟨F3, o3, sb3⟩ := dPutT (kvs' := kvs ++ [(ky, .ref p)]) (ds' := kvd ++ [(kTD ky, .list [])]) o2' ht hv ha2 nd4 dz4 (by rw [List.map_append, List.map_append, ek]; rfl) (by rw [List.map_append, List.map_append]; exact rOld.app (RepA.one rp))
              refine tail p _ F3 _ o3 ?_ upd_same ⟨ky, ?_⟩
              · refine ((s1.stp.trans (Stp.newF hp)).trans (Stp.upd (F := F ++ [p]) (by simp [sb2 a (by simp)]))).sub fun x hx => ?_
                have := sb3 x hx
                simp only [List.mem_append, List.mem_cons, List.mem_singleton] at this ⊢
                rcases this with h | h | h | h
                · exact .inl (sb2 x (by simp [h]))
                · exact .inl (sb2 x (by simp [h]))
                · exact .inl (sb2 x (by simp [h]))
                · exact .inr (by simpa using h)
              · have l1 := congrArg List.length ek
                rw [List.length_map, List.length_map] at l1
                rw [l1, List.getElem?_append_right (Nat.le_refl _), Nat.sub_self]
                rfl
        · cases e5
      · cases e8
    · cases e8
  · cases e2

end
end Pv

set_option Elab.async false
set_option linter.all false
set_option maxRecDepth 100000
/-! Pv15: dicts frozen; what is read in them; d[k] = v (printed by dicts2.py). -/
namespace Pv
open PySem PySem.Spec PyProof.Rows L2
def rDIn : R2 := fun y x H Q => ∃ a o, x = .ref a ∧ DGet H a y o ∧ Q (.bl o.isSome) H
def rDNotIn : R2 := fun y x H Q => ∃ a o, x = .ref a ∧ DGet H a y o ∧ Q (.bl (!o.isSome)) H
def rDGet : R2 := fun x y H Q => ∃ a v, x = .ref a ∧ DGet H a y (some v) ∧ Q v H
def dictOf : D → Option (Bool × List (D × D))
  | .dict ((.bool true, .none) :: ds) => some (true, ds)
  | .dict ds => some (false, ds)
  | _ => none
def keyOk (b : Bool) (k : D) : Bool := if b then (tkey k).isSome else (ikey k).isSome
def dDIn (x y : D) : Option D := (dictOf y).bind fun p => if keyOk p.1 x then some (.bool (posD p.2 x).isSome) else none
def dDNotIn (x y : D) : Option D := (dictOf y).bind fun p => if keyOk p.1 x then some (.bool (!(posD p.2 x).isSome)) else none
def dDGet (x y : D) : Option D := (dictOf x).bind fun p => if keyOk p.1 y then getD' p.2 y else none
/-- in its place, or at the end -/
def putD (kvd : List (D × D)) (k v : D) : List (D × D) := if (posD kvd k).isSome then kvd.map (fun p => if PyData.eqv p.1 k then (p.1, v) else p) else kvd ++ [(k, v)]
/-- x[k] = v -/
def sPutK (i : Nat) (f : EM) (g : EF) : SF := fun δ => (f δ).bind fun p => (g p.2).bind fun k => if (ikey k).isSome then (getDctK p.2 i).bind fun kvd => if kvd.length < sizeLine then some (.nx (p.2.set i (.dict (putD kvd k p.1)))) else none else none
def sPutT (i : Nat) (f : EM) (g : EF) : SF := fun δ => (f δ).bind fun p => (g p.2).bind fun k => if (tkey k).isSome then (getDctT p.2 i).bind fun kvd => if kvd.length < sizeLine then some (.nx (p.2.set i (dtD (putD kvd k p.1)))) else none else none
section
variable {K : PySem.W.Frag} {X : Cx} {Γ Γ' Γ1 Γ2 Γ3 : List T} {H H' H1 H2 H3 : Hp} {Z Z' Z1 Z2 Z3 : FzT} {F F' F1 F2 : List Addr} {σ σ' σ1 : L2.St} {δ δ' : List D} {en eb ec er : List T} {et : T} {W W' : Ends}
theorem op_din (hu : X.A.units + 1 < cLine) : OpR X (compareOp .In) rDIn := fun pins s σ H x y v u Q I rx ry ⟨a, o, ey, g, q⟩ => by
  subst ey
  obtain rfl : u = Value.ref a := ry
  exact d_in hu I g rx fun s3 I3 => ⟨.bl o.isSome, H, I3, rfl, q⟩
theorem op_dnotin (hu : X.A.units + 1 < cLine) : OpR X (compareOp .NotIn) rDNotIn := fun pins s σ H x y v u Q I rx ry ⟨a, o, ey, g, q⟩ => by
  subst ey
  obtain rfl : u = Value.ref a := ry
  exact d_notIn hu I g rx fun s3 I3 => ⟨.bl (!o.isSome), H, I3, rfl, q⟩
theorem pss_lockF {sts : List Stmt} {t : TS} (h : PSs X sts t) : PSs X sts (fun D σ H => ∃ d u, H d = some u ∧ Mut (some u) ∧ ∀ od, t D σ (upd H d (.frz od u))) := ⟨fun pins s σ H D I ⟨d, u, hd, mu, hw⟩ => by
  obtain ⟨od, I1⟩ := I.lock hd mu
  exact h.run pins s σ _ D I1 (hw od)⟩
theorem Stp.frzG {g : List Addr} (s : Stp H Z F H' Z' (F' ++ g)) (m : ∀ a ∈ g, H' a ≠ none) : Stp H Z F H' (zu Z' g) F' :=
  ⟨s.keep, fun a h => .inl (s.mono a h), fun a h => s.own a (List.mem_append_left _ h), fun a h => Or.elim h (s.frz a) fun h => .inr (s.own a (List.mem_append_right _ h)), s.live, fun a h => Or.elim h (s.zs a) fun h => .inr (m a h)⟩
theorem Ok.frzG {g : List Addr} (o : Ok K Γ σ δ H Z F) (nd : (F ++ g).Nodup) (m : ∀ a ∈ g, H a ≠ none) : Ok K Γ σ δ H (zu Z g) F :=
  ⟨o.env.zmono fun _ => .inl, o.nd, fun a ha h => Or.elim h (o.dz a ha) fun h => (List.nodup_append.mp nd).2.2 a ha a h rfl, fun a h => Or.elim h (o.zs a) fun h => m a h⟩
theorem _root_.L2.PE.or {e : Expr} {t t' : TE} (h : PE X e t) (h' : PE X e t') : PE X e (fun σ H Q => t σ H Q ∨ t' σ H Q) := ⟨fun pins s σ H Q I q => q.elim (fun q => h.run pins s σ H Q I q) fun q => h'.run pins s σ H Q I q⟩
theorem ShA.set1 : ∀ {vs : List V} {ds : List D} {v : V} {d : D} {n : Nat}, ShA K H Z vs ds → Sh K H Z v d → ShA K H Z (vs.set n v) (ds.set n d)
  | _, _, _, _, _, .nil, _ => .nil
  | _, _, _, _, 0, .cons h r, s => .cons s r
  | _, _, _, _, n + 1, .cons h r, s => .cons h (ShA.set1 r s)
theorem put_rel {κ : Type} [DecidableEq κ] {c : κ → D} (hc : ∀ a b, PyData.eqv (c a) (c b) = decide (a = b)) {kvs : List (κ × V)} {kvd : List (D × D)} {k : κ} {v : V} {d : D} (ek : kvd.map Prod.fst = kvs.map (fun p => c p.1))
    (r : ShA K H Z (kvs.map Prod.snd) (kvd.map Prod.snd)) (s : Sh K H Z v d) : (putD kvd (c k) d).map Prod.fst = (putK kvs k v).map (fun p => c p.1) ∧ ShA K H Z ((putK kvs k v).map Prod.snd) ((putD kvd (c k) d).map Prod.snd) := by
  unfold putD putK
  rw [valV_any]
  have e : (posD kvd (c k)).isSome = (valV kvs k).isSome := by
    cases ep : posD kvd (c k) with
    | none => rw [pos_none hc ek ep]; rfl
    | some n => obtain ⟨v, _, h2, _⟩ := pos_some hc ek ep; rw [h2]; rfl
  rw [e]
  cases (valV kvs k).isSome with
  | true =>
    rw [if_pos rfl, if_pos rfl]
    clear e
    induction kvd generalizing kvs with
    | nil => cases kvs with | nil => exact ⟨rfl, .nil⟩ | cons => simp at ek
    | cons p kvd ih =>
      cases kvs with
      | nil => simp at ek
      | cons q kvs =>
        rw [List.map_cons, List.map_cons, List.cons.injEq] at ek
        cases r with
        | cons h r =>
          obtain ⟨i1, i2⟩ := ih ek.2 r
          rw [List.map_cons, List.map_cons, List.map_cons, List.map_cons, List.map_cons, List.map_cons, ek.1, hc]
          by_cases hk : q.1 = k
          · rw [if_pos (decide_eq_true hk), if_pos hk]
            exact ⟨by rw [i1], .cons s i2⟩
          · rw [if_neg (by simp [hk]), if_neg hk]
            exact ⟨by rw [i1, ek.1], .cons h i2⟩
  | false =>
    rw [if_neg (by decide), if_neg (by decide), List.map_append, List.map_append, List.map_append, List.map_append, ek]
    exact ⟨rfl, r.app (.cons s .nil)⟩

/-! ### keys: ints and texts -/
/-- the slot i's dict is frozen ahead of a block -/
theorem zFrzDK (i : Nat) {t : T} {sts : List Stmt} {f : SF} (ht : Γ[i]? = some (.dk t)) (hf : t.full = true) (h : PSs X sts (tS X.K (Γ.set i .sh) ⟨en, eb, ec, er, et⟩ f)) : PSs X sts (tS X.K Γ ⟨en, eb, ec, er, et⟩ f) := (pss_lockF h).imp fun W σ H ⟨δ, Z, F, out, ok, e, p⟩ => by
  have hn : (T.dk t) ≠ .no := fun z => nomatch z
  have hi : i < Γ.length := (List.getElem?_eq_some_iff.mp ht).1
  obtain ⟨d, hd⟩ : ∃ d, δ[i]? = some d := ⟨δ[i]'(by rw [ok.env.len.2]; exact hi), by simp [ok.env.len.2, hi]⟩
  obtain ⟨v, F', g, h1, h2, h3, h4, h5⟩ := ok.take ht hn hd
  cases h2 with
  | @dk _ a kvs kvd fs ha ek ra =>
    refine ⟨a, .dK kvs, ha, trivial, fun od => ?_⟩
    have nda : a ∉ fs := (List.nodup_cons.mp (List.nodup_append.mp h4).2.1).1
    have ndF : a ∉ F' := fun z => nd_apart h4 a (by simp) z
    have dza : ∀ x ∈ [a], ¬ Z x := fun x hx => by simp only [List.mem_singleton] at hx; rw [hx]; exact ok.dz a (h5 a (by simp))
    have mu : Mu H [a] := fun x hx => by simp only [List.mem_singleton] at hx; subst hx; exact ⟨_, ha, rfl⟩
    have su : Stp H Z [a] (upd H a (.frz od (.dK kvs))) Z [a] := Stp.upd (by simp)
    have r2 := ra.step su mu dza fun x hx hz => nda (by simp only [List.mem_singleton] at hz; rw [hz] at hx; exact hx)
    have lv : ∀ x ∈ a :: fs, (upd H a (.frz od (.dK kvs))) x ≠ none := fun x hx => by
      rcases List.mem_cons.mp hx with h | h
      · rw [h, upd_same]; exact fun z => nomatch z
      · exact r2.mu.some h
    have sh : Sh X.K (upd H a (.frz od (.dK kvs))) (zu Z (a :: fs)) (.ref a) (.dict kvd) := .dk (.inr (by simp)) upd_same ek (RepA.frz (fun _ => .inl) r2 hf fun x hx => .inr (by simp [hx]))
    have s1 : Stp H Z F (upd H a (.frz od (.dK kvs))) Z (F' ++ a :: fs) := (Stp.upd (h5 a (by simp))).sub fun x hx => h5 x hx
    have o0 : Ok X.K (Γ.set i .no) σ δ (upd H a (.frz od (.dK kvs))) Z F' := ⟨h3.env.step su mu dza fun x hx hz => ndF (by simp only [List.mem_singleton] at hz; rw [hz] at hx; exact hx), h3.nd, h3.dz, fun x hx => upd_live (h3.zs x hx)⟩
    have o1 := o0.frzG h4 lv
    obtain ⟨F2, o2, sb⟩ := o1.set (i := i) (t := .sh) (v := .ref a) (d := .dict kvd) (g := []) (by simpa using hi) (.sh sh) (by simpa using o1.nd) (fun _ q => nomatch q)
    rw [set_self h1, set_self hd, List.set_set] at o2
    exact ⟨δ, _, F2, out, o2, e, p.later ((s1.frzG lv).sub fun x hx => by simpa using sb x hx) (.refl _ _)⟩
theorem fz_dgetK {a : Addr} {kvs : List (Key × V)} {kvd : List (D × D)} {y : V} {d : D} (h : Rd H a (.dK kvs)) (ek : kvd.map Prod.fst = kvs.map (fun p => kD p.1)) (hk : (ikey d).isSome = true) (sy : Sh K H Z y d) (r : ShA K H Z (kvs.map Prod.snd) (kvd.map Prod.snd)) :
    ∃ o, DGet H a y o ∧ ((posD kvd d = none ∧ o = none) ∨ ∃ n v e, posD kvd d = some n ∧ o = some v ∧ kvd[n]?.map (·.2) = some e ∧ Sh K H Z v e) := by
  obtain ⟨k, hk⟩ := Option.isSome_iff_exists.mp hk
  have e := ikey_eq hk
  subst e
  refine ⟨valV kvs k, by rw [sy.keyK]; exact .inl ⟨kvs, k, h, rfl, rfl⟩, ?_⟩
  cases ep : posD kvd (kD k) with
  | none => exact .inl ⟨rfl, pos_none eqv_kD ek ep⟩
  | some n =>
    obtain ⟨v, h1, h2, h3⟩ := pos_some eqv_kD ek ep
    have hn : (kvd.map Prod.snd)[n]? = some (kvd[n]'h3).2 := by rw [List.getElem?_map, List.getElem?_eq_getElem h3]; rfl
    obtain ⟨v', e1, e2⟩ := r.get hn
    rw [List.getElem?_map, h1] at e1
    cases e1
    exact .inr ⟨n, v, (kvd[n]'h3).2, rfl, h2, by rw [List.getElem?_eq_getElem h3]; rfl, e2⟩
theorem zPutK (i : Nat) {st : Stmt} {f : EM} {g : EF} (h : PS X st (sDPut (tVar i) (tP X.K Γ' .sh g) (tM X.K Γ Γ' .sh f))) (ht' : Γ'[i]? = some (.dk .sh)) : PS X st (tS X.K Γ ⟨Γ', eb, ec, er, et⟩ (sPutK i f g)) :=
  h.imp fun W σ H ⟨δ, Z, F, out, ok, e, p⟩ => by
  obtain ⟨⟨y, δ1⟩, e1, e2⟩ := Option.bind_eq_some_iff.mp e
  obtain ⟨kd, e3, e4⟩ := Option.bind_eq_some_iff.mp e2
  split at e4
  · rename_i hdec
    obtain ⟨kvd, e5, e6⟩ := Option.bind_eq_some_iff.mp e4
    split at e6
    · rename_i hz
      cases e6
      obtain ⟨ky, hky⟩ := Option.isSome_iff_exists.mp hdec
      have ekd := ikey_eq hky
      subst ekd
      refine ⟨δ, Z, F, y, δ1, ok, e1, fun v H1 Z1 F1 g1 s1 ok1 r1 nd1 dz1 => ?_⟩
      obtain ⟨rs, rfl⟩ := r1.shOf
      obtain ⟨a, kvs, fs, F2, hv, ha, ek, ra, o2, nd2, sb2⟩ := dOpnK ok1 ht' (getDctK_eq e5)
      refine ⟨.ref a, hv, δ1, Z1, F1, kD ky, ok1, e3, fun w H2 Z2 g2 s2 r2 => ?_⟩
      have hzl : kvs.length < sizeLine := by
        have l1 := congrArg List.length ek
        rw [List.length_map, List.length_map] at l1
        rw [← l1]
        exact hz
      have ha2 := s2.keep a _ ha (by simp)
      obtain ⟨sa, rfl⟩ := ra.shA
      have su : Stp H2 Z2 [a] (upd H2 a (.dK (putK kvs ky v))) Z2 [a] := Stp.upd (by simp)
      have mu : Mu H2 [a] := fun x hx => by simp only [List.mem_singleton] at hx; subst hx; exact ⟨_, ha2, rfl⟩
      have ok2 := ok1.ext s2
      have dza : ∀ x ∈ [a], ¬ Z2 x := fun x hx => by simp only [List.mem_singleton] at hx; rw [hx]; exact ok2.dz a (sb2 a (by simp))
      obtain ⟨p1, p2⟩ := put_rel (k := ky) eqv_kD ek ((sa.ext s2).step su mu dza) ((rs.ext s2).step su mu dza)
      obtain ⟨F3, o3, sb3⟩ := dPutK (o2.ext s2) ht' hv ha2 nd2 (fun x hx => ok2.dz x (sb2 x (List.mem_append_right _ hx))) p1 p2.repA
      have st : Stp H Z F (upd H2 a (.dK (putK kvs ky v))) Z2 F3 := (((by simpa using s1 : Stp H Z F H1 Z1 F1).trans s2.stp).trans (Stp.upd (sb2 a (by simp)))).sub fun x hx => sb2 x (sb3 x hx)
      refine ⟨a, upd H2 a (.dK (putK kvs ky v)), rfl, ?_, p σ _ Z2 F3 st o3 (.refl _ _)⟩
      obtain rfl := r2.shOf.1.keyK
      exact .inl ⟨kvs, ky, ha2, rfl, hzl, rfl⟩
    · cases e6
  · cases e4

/-! ### keys: tuples of ints and texts -/
/-- the slot i's dict is frozen ahead of a block -/
theorem zFrzDT (i : Nat) {t : T} {sts : List Stmt} {f : SF} (ht : Γ[i]? = some (.dt t)) (hf : t.full = true) (h : PSs X sts (tS X.K (Γ.set i .sh) ⟨en, eb, ec, er, et⟩ f)) : PSs X sts (tS X.K Γ ⟨en, eb, ec, er, et⟩ f) := (pss_lockF h).imp fun W σ H ⟨δ, Z, F, out, ok, e, p⟩ => by
  have hn : (T.dt t) ≠ .no := fun z => nomatch z
  have hi : i < Γ.length := (List.getElem?_eq_some_iff.mp ht).1
  obtain ⟨d, hd⟩ : ∃ d, δ[i]? = some d := ⟨δ[i]'(by rw [ok.env.len.2]; exact hi), by simp [ok.env.len.2, hi]⟩
  obtain ⟨v, F', g, h1, h2, h3, h4, h5⟩ := ok.take ht hn hd
  cases h2 with
  | @dt _ a kvs kvd fs ha ek ra =>
    refine ⟨a, .dT kvs, ha, trivial, fun od => ?_⟩
    have nda : a ∉ fs := (List.nodup_cons.mp (List.nodup_append.mp h4).2.1).1
    have ndF : a ∉ F' := fun z => nd_apart h4 a (by simp) z
    have dza : ∀ x ∈ [a], ¬ Z x := fun x hx => by simp only [List.mem_singleton] at hx; rw [hx]; exact ok.dz a (h5 a (by simp))
    have mu : Mu H [a] := fun x hx => by simp only [List.mem_singleton] at hx; subst hx; exact ⟨_, ha, rfl⟩
    have su : Stp H Z [a] (upd H a (.frz od (.dT kvs))) Z [a] := Stp.upd (by simp)
    have r2 := ra.step su mu dza fun x hx hz => nda (by simp only [List.mem_singleton] at hz; rw [hz] at hx; exact hx)
    have lv : ∀ x ∈ a :: fs, (upd H a (.frz od (.dT kvs))) x ≠ none := fun x hx => by
      rcases List.mem_cons.mp hx with h | h
      · rw [h, upd_same]; exact fun z => nomatch z
      · exact r2.mu.some h
    have sh : Sh X.K (upd H a (.frz od (.dT kvs))) (zu Z (a :: fs)) (.ref a) (dtD kvd) := .dt (.inr (by simp)) upd_same ek (RepA.frz (fun _ => .inl) r2 hf fun x hx => .inr (by simp [hx]))
    have s1 : Stp H Z F (upd H a (.frz od (.dT kvs))) Z (F' ++ a :: fs) := (Stp.upd (h5 a (by simp))).sub fun x hx => h5 x hx
    have o0 : Ok X.K (Γ.set i .no) σ δ (upd H a (.frz od (.dT kvs))) Z F' := ⟨h3.env.step su mu dza fun x hx hz => ndF (by simp only [List.mem_singleton] at hz; rw [hz] at hx; exact hx), h3.nd, h3.dz, fun x hx => upd_live (h3.zs x hx)⟩
    have o1 := o0.frzG h4 lv
    obtain ⟨F2, o2, sb⟩ := o1.set (i := i) (t := .sh) (v := .ref a) (d := dtD kvd) (g := []) (by simpa using hi) (.sh sh) (by simpa using o1.nd) (fun _ q => nomatch q)
    rw [set_self h1, set_self hd, List.set_set] at o2
    exact ⟨δ, _, F2, out, o2, e, p.later ((s1.frzG lv).sub fun x hx => by simpa using sb x hx) (.refl _ _)⟩
theorem fz_dgetT {a : Addr} {kvs : List (List Key × V)} {kvd : List (D × D)} {y : V} {d : D} (h : Rd H a (.dT kvs)) (ek : kvd.map Prod.fst = kvs.map (fun p => kTD p.1)) (hk : (tkey d).isSome = true) (sy : Sh K H Z y d) (r : ShA K H Z (kvs.map Prod.snd) (kvd.map Prod.snd)) :
    ∃ o, DGet H a y o ∧ ((posD kvd d = none ∧ o = none) ∨ ∃ n v e, posD kvd d = some n ∧ o = some v ∧ kvd[n]?.map (·.2) = some e ∧ Sh K H Z v e) := by
  obtain ⟨k, hk⟩ := Option.isSome_iff_exists.mp hk
  have e := tkey_eq hk
  subst e
  refine ⟨valV kvs k, by obtain ⟨b, rfl, hb⟩ := sy.keyT; exact .inr ⟨kvs, k, b, h, rfl, hb, rfl⟩, ?_⟩
  cases ep : posD kvd (kTD k) with
  | none => exact .inl ⟨rfl, pos_none eqv_kTD ek ep⟩
  | some n =>
    obtain ⟨v, h1, h2, h3⟩ := pos_some eqv_kTD ek ep
    have hn : (kvd.map Prod.snd)[n]? = some (kvd[n]'h3).2 := by rw [List.getElem?_map, List.getElem?_eq_getElem h3]; rfl
    obtain ⟨v', e1, e2⟩ := r.get hn
    rw [List.getElem?_map, h1] at e1
    cases e1
    exact .inr ⟨n, v, (kvd[n]'h3).2, rfl, h2, by rw [List.getElem?_eq_getElem h3]; rfl, e2⟩
theorem zPutT (i : Nat) {st : Stmt} {f : EM} {g : EF} (h : PS X st (sDPut (tVar i) (tP X.K Γ' .sh g) (tM X.K Γ Γ' .sh f))) (ht' : Γ'[i]? = some (.dt .sh)) : PS X st (tS X.K Γ ⟨Γ', eb, ec, er, et⟩ (sPutT i f g)) :=
  h.imp fun W σ H ⟨δ, Z, F, out, ok, e, p⟩ => by
  obtain ⟨⟨y, δ1⟩, e1, e2⟩ := Option.bind_eq_some_iff.mp e
  obtain ⟨kd, e3, e4⟩ := Option.bind_eq_some_iff.mp e2
  split at e4
  · rename_i hdec
    obtain ⟨kvd, e5, e6⟩ := Option.bind_eq_some_iff.mp e4
    split at e6
    · rename_i hz
      cases e6
      obtain ⟨ky, hky⟩ := Option.isSome_iff_exists.mp hdec
      have ekd := tkey_eq hky
      subst ekd
      refine ⟨δ, Z, F, y, δ1, ok, e1, fun v H1 Z1 F1 g1 s1 ok1 r1 nd1 dz1 => ?_⟩
      obtain ⟨rs, rfl⟩ := r1.shOf
      obtain ⟨a, kvs, fs, F2, hv, ha, ek, ra, o2, nd2, sb2⟩ := dOpnT ok1 ht' (getDctT_eq e5)
      refine ⟨.ref a, hv, δ1, Z1, F1, kTD ky, ok1, e3, fun w H2 Z2 g2 s2 r2 => ?_⟩
      have hzl : kvs.length < sizeLine := by
        have l1 := congrArg List.length ek
        rw [List.length_map, List.length_map] at l1
        rw [← l1]
        exact hz
      have ha2 := s2.keep a _ ha (by simp)
      obtain ⟨sa, rfl⟩ := ra.shA
      have su : Stp H2 Z2 [a] (upd H2 a (.dT (putK kvs ky v))) Z2 [a] := Stp.upd (by simp)
      have mu : Mu H2 [a] := fun x hx => by simp only [List.mem_singleton] at hx; subst hx; exact ⟨_, ha2, rfl⟩
      have ok2 := ok1.ext s2
      have dza : ∀ x ∈ [a], ¬ Z2 x := fun x hx => by simp only [List.mem_singleton] at hx; rw [hx]; exact ok2.dz a (sb2 a (by simp))
      obtain ⟨p1, p2⟩ := put_rel (k := ky) eqv_kTD ek ((sa.ext s2).step su mu dza) ((rs.ext s2).step su mu dza)
      obtain ⟨F3, o3, sb3⟩ := dPutT (o2.ext s2) ht' hv ha2 nd2 (fun x hx => ok2.dz x (sb2 x (List.mem_append_right _ hx))) p1 p2.repA
      have st : Stp H Z F (upd H2 a (.dT (putK kvs ky v))) Z2 F3 := (((by simpa using s1 : Stp H Z F H1 Z1 F1).trans s2.stp).trans (Stp.upd (sb2 a (by simp)))).sub fun x hx => sb2 x (sb3 x hx)
      refine ⟨a, upd H2 a (.dT (putK kvs ky v)), rfl, ?_, p σ _ Z2 F3 st o3 (.refl _ _)⟩
      obtain ⟨bk, rfl, hbk⟩ := r2.shOf.1.keyT
      exact .inr ⟨kvs, ky, bk, ha2, rfl, hbk, hzl, rfl⟩
    · cases e6
  · cases e4

/-! ### dicts read -/
theorem dictOf_dk {kvs : List (Key × V)} {kvd : List (D × D)} {b : Bool} {l : List (D × D)} (ek : kvd.map Prod.fst = kvs.map (fun p => kD p.1)) (h : dictOf (.dict kvd) = some (b, l)) : b = false ∧ l = kvd := by
  unfold dictOf at h
  split at h
  · rename_i ds e
    cases e
    cases kvs with
    | nil => simp at ek
    | cons q r =>
      rw [List.map_cons, List.map_cons, List.cons.injEq] at ek
      obtain ⟨e1, _⟩ := ek
      cases hq : q.1 <;> (rw [hq] at e1; cases e1)
  · rename_i e
    cases e
    cases h
    exact ⟨rfl, rfl⟩
  · rename_i e1 e2
    exact absurd rfl (e2 _)
theorem dictOf_dt {kvd : List (D × D)} : dictOf (dtD kvd) = some (true, kvd) := rfl
def isDct : T → Bool
  | .sh => true
  | .dk .sh => true
  | .dt .sh => true
  | _ => false
theorem rd_dict {t : T} {v : V} {dx d : D} {y : V} {b : Bool} {kvd : List (D × D)} {f : List Addr} (ht : isDct t = true) (r : Rep K H Z t v dx f) (e : dictOf dx = some (b, kvd)) (hk : keyOk b d = true) (sy : Sh K H Z y d) :
    ∃ a o, v = .ref a ∧ DGet H a y o ∧ ((posD kvd d = none ∧ o = none) ∨ ∃ n v e, posD kvd d = some n ∧ o = some v ∧ kvd[n]?.map (·.2) = some e ∧ Sh K H Z v e) := by
  unfold isDct at ht
  split at ht
  · obtain ⟨r', _⟩ := r.shOf
    cases r' with
    | @dk a od kvs kvd' z h ek r' =>
      obtain ⟨rfl, rfl⟩ := dictOf_dk ek e
      obtain ⟨o, h1, h2⟩ := fz_dgetK (.inr ⟨od, h⟩) ek hk sy r'
      exact ⟨a, o, rfl, h1, h2⟩
    | @dt a od kvs kvd' z h ek r' =>
      cases e
      obtain ⟨o, h1, h2⟩ := fz_dgetT (.inr ⟨od, h⟩) ek hk sy r'
      exact ⟨a, o, rfl, h1, h2⟩
    | _ => cases e
  · cases r with
    | @dk _ a kvs kvd' f h ek r =>
      obtain ⟨rfl, rfl⟩ := dictOf_dk ek e
      obtain ⟨o, h1, h2⟩ := fz_dgetK (.inl h) ek hk sy r.shA.1
      exact ⟨a, o, rfl, h1, h2⟩
  · cases r with
    | @dt _ a kvs kvd' f h ek r =>
      cases e
      obtain ⟨o, h1, h2⟩ := fz_dgetT (.inl h) ek hk sy r.shA.1
      exact ⟨a, o, rfl, h1, h2⟩
  · cases ht
theorem din_s {t : T} (ht : isDct t = true) : OpS K rDIn .sh t .sh dDIn := by
  intro H Z x y dx dy d f g Q rx ry e k
  obtain ⟨⟨b, kvd⟩, e1, e2⟩ := Option.bind_eq_some_iff.mp e
  split at e2
  · rename_i hk
    cases e2
    obtain ⟨a, o, rfl, h1, h2⟩ := rd_dict ht ry e1 hk rx.shOf.1
    refine ⟨a, o, rfl, h1, ?_⟩
    have : o.isSome = (posD kvd dx).isSome := by rcases h2 with ⟨p, q⟩ | ⟨n, v, e, p, q, _⟩ <;> rw [p, q] <;> rfl
    rw [this]
    exact k _ H Z [] .refl (.sh (.bl _))
  · cases e2
theorem dnotin_s {t : T} (ht : isDct t = true) : OpS K rDNotIn .sh t .sh dDNotIn := by
  intro H Z x y dx dy d f g Q rx ry e k
  obtain ⟨⟨b, kvd⟩, e1, e2⟩ := Option.bind_eq_some_iff.mp e
  split at e2
  · rename_i hk
    cases e2
    obtain ⟨a, o, rfl, h1, h2⟩ := rd_dict ht ry e1 hk rx.shOf.1
    refine ⟨a, o, rfl, h1, ?_⟩
    have : o.isSome = (posD kvd dx).isSome := by rcases h2 with ⟨p, q⟩ | ⟨n, v, e, p, q, _⟩ <;> rw [p, q] <;> rfl
    rw [this]
    exact k _ H Z [] .refl (.sh (.bl _))
  · cases e2
theorem dget_s {t : T} (ht : isDct t = true) : OpS K rDGet t .sh .sh dDGet := by
  intro H Z x y dx dy d f g Q rx ry e k
  obtain ⟨⟨b, kvd⟩, e1, e2⟩ := Option.bind_eq_some_iff.mp e
  split at e2
  · rename_i hk
    obtain ⟨a, o, rfl, h1, h2⟩ := rd_dict ht rx e1 hk ry.shOf.1
    unfold getD' at e2
    rcases h2 with ⟨p, q⟩ | ⟨n, v, e, p, q, p2, sv⟩
    · simp only at e2; rw [p] at e2; cases e2
    · simp only at e2; rw [p] at e2
      rw [Option.bind_some, p2] at e2
      cases e2
      subst q
      exact ⟨a, v, rfl, h1, k v H Z [] .refl (.sh sv)⟩
  · cases e2
/-- x[k] of a dict -/
theorem cDGet {t : T} {fa fb : EF} {a b : Expr} {pos : Pos} (hu : X.A.units + 1 < cLine) (ht : isDct t = true) (ha : PE X a (tP X.K Γ t fa)) (hb : PE X b (tP X.K Γ .sh fb)) (hs : NoSl b) : PE X (.Subscript a b pos) (tP X.K Γ .sh (x2 dDGet fa fb)) :=
  (pe_dget hu ha hb hs).imp fun _ _ _ h => p2 (r := rDGet) (dget_s ht) h
/-- x.get(k, e) -/
def xDGet2 (fa fb fc : EF) : EF := fun δ => (fa δ).bind fun x => (fb δ).bind fun y => (fc δ).bind fun z => (dictOf x).bind fun p => if keyOk p.1 y then some ((getD' p.2 y).getD z) else none
theorem Rep.isd {t : T} {v : V} {dx : D} {b : Bool} {kvd : List (D × D)} {f : List Addr} (ht : isDct t = true) (r : Rep K H Z t v dx f) (e : dictOf dx = some (b, kvd)) : ∃ a, v = .ref a ∧ IsD H a := by
  unfold isDct at ht
  split at ht
  · obtain ⟨r, _⟩ := r.shOf
    cases r with
    | @dk a od kvs kvd' z h ek r => exact ⟨a, rfl, .inl ⟨_, .inr ⟨_, h⟩⟩⟩
    | @dt a od kvs kvd' z h ek r => exact ⟨a, rfl, .inr ⟨_, .inr ⟨_, h⟩⟩⟩
    | _ => cases e
  · cases r with
    | @dk _ a kvs kvd' f h ek r => exact ⟨a, rfl, .inl ⟨_, .inl h⟩⟩
  · cases r with
    | @dt _ a kvs kvd' f h ek r => exact ⟨a, rfl, .inr ⟨_, .inl h⟩⟩
  · cases ht
theorem cDGet2 {t : T} {fa fb fc : EF} {o e f : Expr} {apos cpos : Pos} (hu : X.A.units + 1 < cLine) (ht : isDct t = true) (ho : PE X o (tP X.K Γ t fa)) (he : PE X e (tP X.K Γ .sh fb)) (hf : PE X f (tP X.K Γ .sh fc)) (m : M2 X o "get" apos e f cpos) :
    PE X (.Call (.Attribute o "get" apos) [e, f] [] cpos) (tP X.K Γ .sh (xDGet2 fa fb fc)) := (pe_dget2 hu ho he hf m).imp fun σ H Q ⟨δ, Z, F, d, ok, e, k⟩ => by
  obtain ⟨x, ex, e⟩ := Option.bind_eq_some_iff.mp e
  obtain ⟨y, ey, e⟩ := Option.bind_eq_some_iff.mp e
  obtain ⟨z, ez, e⟩ := Option.bind_eq_some_iff.mp e
  obtain ⟨⟨b, kvd⟩, e1, e2⟩ := Option.bind_eq_some_iff.mp e
  split at e2
  · rename_i hk
    cases e2
    refine ⟨δ, Z, F, x, ok, ex, fun v H1 Z1 g1 s1 r1 => ?_⟩
    obtain ⟨a, rfl, hd⟩ := r1.isd ht e1
    refine ⟨a, rfl, hd, δ, Z1, F, y, ok.ext s1, ey, fun w H2 Z2 g2 s2 r2 => ⟨δ, Z2, F, z, (ok.ext s1).ext s2, ez, fun u H3 Z3 g3 s3 r3 => ?_⟩⟩
    obtain ⟨a', o, e, h1, h2⟩ := rd_dict ht (r1.ext (s2.trans s3)) e1 hk (r2.ext s3).shOf.1
    cases e
    refine ⟨o, h1, ?_⟩
    simp only at k
    unfold getD' at k
    rcases h2 with ⟨p, q⟩ | ⟨n, v, e, p, q, p2, sv⟩
    · subst q
      rw [p] at k
      exact k u H3 Z3 _ ((s1.trans s2).trans s3) r3
    · subst q
      rw [p, Option.bind_some, p2] at k
      exact k v H3 Z3 [] ((s1.trans s2).trans s3) (.sh sv)
  · cases e2
/-! ### a frozen dict, key by key; a list, a tuple or a dict -/
def asIt : D → Option (List D)
  | .tuple ds => some ds
  | .list ds => some ds
  | .dict ds => (dictOf (.dict ds)).map (·.2.map Prod.fst)
  | _ => none
def lIt (f : EF) : LF := fun δ => (f δ).bind asIt
theorem sh_kD {k : Key} : Sh K H Z (kV k) (kD k) := by
  cases k
  · exact .int _
  · exact .str _
theorem sha_kD : ∀ {k : List Key}, ShA K H Z (k.map kV) (k.map kD)
  | [] => .nil
  | _ :: _ => .cons sh_kD sha_kD
theorem Lat.frz {d : Addr} {o : Obj} {u : HO} (l : Lat H Z H2 Z2) (z : Z d) (h : H d = some (.frz o u)) : H2 d = some (.frz o u) := let ⟨_, _, s, m, dz⟩ := l; s.keep _ _ h fun q => dz _ q z
theorem wks_keysK {d : Addr} {o : Obj} {kvs : List (Key × V)} {kvd : List (D × D)} (z : Z d) (h : H d = some (.frz o (.dK kvs))) (ek : kvd.map Prod.fst = kvs.map (fun p => kD p.1)) : Wks K (Itk d o kvs) (kvd.map Prod.fst) H Z := by
  refine ⟨_, _, by rw [ek, List.length_map]; exact walk_keys, fun H2 Z2 l => l.frz z h, fun i H2 Z2 x H3 e l y he => ?_⟩
  obtain ⟨rfl, k, v, h1, rfl⟩ := y
  rw [ek, List.getElem?_map, h1] at he
  cases he
  exact ⟨Z2, .refl, sh_kD⟩
theorem wks_keysT {d : Addr} {o : Obj} {kvs : List (List Key × V)} {kvd : List (D × D)} (z : Z d) (h : H d = some (.frz o (.dT kvs))) (ek : kvd.map Prod.fst = kvs.map (fun p => kTD p.1)) : Wks K (Itkt d o kvs) (kvd.map Prod.fst) H Z := by
  refine ⟨_, _, by rw [ek, List.length_map]; exact walk_keysT, fun H2 Z2 l => l.frz z h, fun i H2 Z2 x H3 e l y he => ?_⟩
  obtain ⟨rfl, k, v, q, h1, rfl, hq⟩ := y
  rw [ek, List.getElem?_map, h1] at he
  cases he
  exact ⟨Z2, .refl, .tup hq sha_kD⟩
theorem iIt {tg e : Expr} {f : EF} (h : PE X e (tP X.K Γ .sh f)) : PI X tg e (tIP X.K Γ (lIt f)) := (((pi_list h).or (pi_tup h)).or (pi_keys h)).imp fun σ H R ⟨δ, Z, F, ds, ok, e, k⟩ => by
  obtain ⟨d, e1, e3⟩ := Option.bind_eq_some_iff.mp e
  cases d with
  | list es =>
    cases e3
    refine .inl (.inl ⟨δ, Z, F, .list _, ok, e1, fun v H1 Z1 g s1 r1 => ?_⟩)
    obtain ⟨r, rfl⟩ := r1.shOf
    cases r with
    | lst z r => exact ⟨_, rfl, ⟨_, z.sql⟩, k _ H1 Z1 s1 (wks_list z r)⟩
  | tuple es =>
    cases e3
    refine .inl (.inr ⟨δ, Z, F, .tuple _, ok, e1, fun v H1 Z1 g s1 r1 => ?_⟩)
    obtain ⟨r, rfl⟩ := r1.shOf
    cases r with
    | tup h r => exact ⟨_, rfl, ⟨_, SqT.of h⟩, k _ H1 Z1 s1 (wks_tup (SqT.of h) r)⟩
  | dict es =>
    obtain ⟨⟨b, kvd⟩, e4, e5⟩ := Option.map_eq_some_iff.mp e3
    cases e5
    refine .inr ⟨δ, Z, F, .dict es, ok, e1, fun v H1 Z1 g s1 r1 => ?_⟩
    obtain ⟨r, rfl⟩ := r1.shOf
    cases r with
    | dk z h ek r =>
      obtain ⟨rfl, rfl⟩ := dictOf_dk ek e4
      exact ⟨_, _, rfl, .inl ⟨_, h, k _ H1 Z1 s1 (wks_keysK z h ek)⟩⟩
    | dt z h ek r =>
      cases e4
      exact ⟨_, _, rfl, .inr ⟨_, h, k _ H1 Z1 s1 (wks_keysT z h ek)⟩⟩
  | _ => cases e3
end
end Pv

set_option Elab.async false
set_option linter.all false
set_option maxRecDepth 100000
/-! Pv16: sorted of ints, of tuples of ints of any lengths. -/
namespace SrtO
open PySem PyProof.Rows Srt HT
theorem lex_asym : ∀ (x y : List Int), lexLt x y = true → lexLt y x = false
  | [], [], h => by cases h
  | [], _ :: _, _ => rfl
  | _ :: _, [], h => by cases h
  | a :: x, b :: y, h => by
    rw [lexLt_cons] at h ⊢
    by_cases e : a = b
    · rw [if_pos e] at h; rw [if_pos e.symm]; exact lex_asym x y h
    · rw [if_neg e] at h; rw [if_neg (fun z => e z.symm)]
      have := of_decide_eq_true h
      exact decide_eq_false (by omega)
theorem lex_tr : ∀ (x y z : List Int), lexLt y x = false → lexLt z y = false → lexLt z x = false
  | [], [], [], _, _ => rfl
  | [], [], _ :: _, _, _ => rfl
  | [], _ :: _, [], _, h => by cases h
  | [], _ :: _, _ :: _, _, _ => rfl
  | _ :: _, [], _, h, _ => by cases h
  | _ :: _, _ :: _, [], _, h => by cases h
  | a :: x, b :: y, c :: z, h, k => by
    rw [lexLt_cons] at h k ⊢
    by_cases e : b = a
    · rw [if_pos e] at h
      subst e
      by_cases e2 : c = b
      · rw [if_pos e2] at k ⊢; exact lex_tr x y z h k
      · rw [if_neg e2] at k ⊢; exact k
    · rw [if_neg e] at h
      have h1 := of_decide_eq_false h
      by_cases e2 : c = b
      · subst e2
        rw [if_neg e]; exact h
      · rw [if_neg e2] at k
        have h2 := of_decide_eq_false k
        rw [if_neg (by omega)]
        exact decide_eq_false (by omega)
theorem lex_eq : ∀ (x y : List Int), lexLt x y = false → lexLt y x = false → x = y
  | [], [], _, _ => rfl
  | [], _ :: _, h, _ => by cases h
  | _ :: _, [], _, h => by cases h
  | a :: x, b :: y, h, k => by
    rw [lexLt_cons] at h k
    by_cases e : a = b
    · rw [if_pos e] at h; rw [if_pos e.symm] at k
      rw [e, lex_eq x y h k]
    · rw [if_neg e] at h; rw [if_neg (fun z => e z.symm)] at k
      have := of_decide_eq_false h
      have := of_decide_eq_false k
      omega
theorem swo_lexL {α : Type} (k : α → List Int) : Swo fun v u => lexLt (k v) (k u) := ⟨fun x y h => lex_asym _ _ h, fun x y z h1 h2 => lex_tr _ _ _ h1 h2⟩
/-- a tuple of ints -/
def IsTupI (h : Heap) (v : Value) (ns : List Int) : Prop := ∃ a o xs n, v = .ref a ∧ h.get? a = some o ∧ o.cls = .type "tuple" ∧ o.data = .seq xs n ∧ IntsAre xs.toList ns
theorem IsTupI.keeps {h h' : Heap} {v : Value} {ns : List Int} (p : IsTupI h v ns) (k : ∀ b o, h.get? b = some o → o.cls = .type "tuple" → h'.get? b = some o) : IsTupI h' v ns := by
  obtain ⟨a, o, xs, n, e, ho, hc, r⟩ := p
  exact ⟨a, o, xs, n, e, k _ _ ho hc, hc, r⟩
section
variable {prog : Program} {w : World} {A : Around} {E : Value → Shared → Prop} {s : Shared}
theorem kat_ints {Q : Bool → Shared → Prop} {fin : Bool} : ∀ (xs ys : List Value) (ns ms : List Int) (i : Nat), IntsAre xs ns → IntsAre ys ms → fin = decide (ns.length < ms.length) → Q (lexLt ns ms) s → PySem.W.KatLex prog w A true fin Q (xs.zip ys) i s
  | _, _, _, _, i, .nil, .nil, hf, h => by
    have : fin = false := hf
    subst this
    exact PySem.W.kat_nil h
  | _, _, _, _, i, .nil, .cons _ _ r, hf, h => by
    have : fin = true := by rw [hf]; simp
    subst this
    exact PySem.W.kat_nil h
  | _, _, _, _, i, .cons _ _ r, .nil, hf, h => by
    have : fin = false := by rw [hf]; simp
    subst this
    exact PySem.W.kat_nil h
  | _, _, _, _, i, .cons (vs := xs) (ns := ns) a t r, .cons (vs := ys) (ns := ms) b u r2, hf, h => by
    refine PySem.W.kat_cons (SeqAt.EqAt.int_int a t b u prog w _ _ ?_)
    refine PySem.W.kat_go (fun e1 => ?_) (fun e1 => ?_)
    · have ex : a = b := by simpa using e1
      refine PySem.W.kat_yes (kat_ints xs ys ns ms (i + 1) r r2 (by rw [hf]; simp) ?_)
      rw [lexLt_cons, if_pos ex] at h
      exact h
    · have ex : ¬ a = b := by simpa using e1
      rw [lexLt_cons, if_neg ex] at h
      exact PySem.W.kat_no (TS.oneLt_ints _ h)
theorem tupI_cmp {vs : List Value} {k : Value → List Int} (hp : ∀ v ∈ vs, IsTupI s.heap v (k v)) : Cmp prog w A s (tuples' true) (fun p => p.1 ∈ vs) (lt2 fun v u => lexLt (k v) (k u)) := by
  intro p q hm hm'
  have h1 := hp _ hm
  have h2 := hp _ hm'
  show wpAny (model prog w) A (keyLt' (tuples' true) p.1 q.1) (fun r s' => s' = s ∧ r = lexLt (k p.1) (k q.1)) (fun _ _ => False) s
  obtain ⟨a, o, xs, n, e, ho, hc, hd, r⟩ := h1
  obtain ⟨a', o', xs', n', e', ho', hc', hd', r'⟩ := h2
  rw [e, e'] at *
  refine PySem.W.kat_lt ho hd ho' hd' ?_
  refine kat_ints _ _ _ _ 0 r r' ?_ ⟨rfl, rfl⟩
  have l1 := r.length
  have l2 := r'.length
  rw [Array.length_toList] at l1 l2
  rw [l1, l2]
theorem firstsI {h : Heap} {k : Value → List Int} : ∀ {vs : List Value}, (∀ v ∈ vs, IsTupI h v (k v) ∧ k v ≠ []) → ∃ fs : List Value, PySem.W.KatTups h vs fs ∧ fs.length = vs.length ∧ ∀ f ∈ fs, ∃ x t, f = Value.int x t
  | [], _ => ⟨[], PySem.W.KatTups.nil, rfl, fun _ hm => by simp at hm⟩
  | v :: vs, hp => by
    obtain ⟨fs, h1, h2, h3⟩ := firstsI (vs := vs) fun v' hm => hp v' (List.mem_cons_of_mem _ hm)
    obtain ⟨⟨a, o, xs, n, e, ho, hc, hd, r⟩, ne⟩ := hp v (List.mem_cons_self ..)
    subst e
    cases hl : k (.ref a) with
    | nil => exact absurd hl ne
    | cons x xs' =>
      rw [hl] at r
      obtain ⟨y, t, l', e⟩ : ∃ y t l', xs.toList = Value.int y t :: l' := by
        generalize hx : xs.toList = l at r
        cases r with
        | cons n t r => exact ⟨_, _, _, rfl⟩
      refine ⟨.int y t :: fs, PySem.W.KatTups.cons ho hc hd (by rw [← Array.getElem?_toList, e]; rfl) h1, by rw [List.length_cons, List.length_cons, h2], fun f hm => ?_⟩
      rcases List.mem_cons.mp hm with rfl | hm
      · exact ⟨y, t, rfl⟩
      · exact h3 f hm
theorem tupI_sortableO {a : Addr} {vs : List Value} {k : Value → List Int} (h0 : 0 < vs.length) (hp : ∀ v ∈ vs, IsTupI s.heap v (k v) ∧ k v ≠ []) (ha : ∀ o, s.heap.get? a = some o → o.cls ≠ .type "tuple") : SortableO prog w A s a vs fun v u => lexLt (k v) (k u) := by
  intro h' keep
  have hp' : ∀ v ∈ vs, IsTupI h' v (k v) := fun v hm => (hp v hm).1.keeps fun b o e c => keep b o (fun z => by subst z; exact ha o e c) e
  obtain ⟨fs, h1, h2, h3⟩ := firstsI fun v hm => ⟨hp' v hm, (hp v hm).2⟩
  refine ⟨tuples' true, fun Q E hq => ?_, tupI_cmp hp'⟩
  refine PySem.W.kat_kind (T := .type "int") h1 (by omega) (fun f hm => ?_) (by rfl) ?_
  · obtain ⟨x, t, rfl⟩ := h3 f hm
    exact PySem.W.Looks.now
  · have e : (Value.type "int" != Value.type "tuple") = true := by first | decide +kernel | rfl | decide
    rw [e]
    exact hq
theorem sorted_tupI {l : Addr} {vs : List Value} {k : Value → List Int} {Q : Value → Shared → Prop} (hl : s.heap.IsList l vs.toArray) (hz : vs.length ≤ sizeLine) (hp : ∀ v ∈ vs, IsTupI s.heap v (k v) ∧ k v ≠ [])
    (h : ∀ (h' : Heap) (d : Addr) (out : List Value), Srtd (fun v u => lexLt (k v) (k u)) out → Stb (fun v u => lexLt (k v) (k u)) out vs → (∀ b o, s.heap.get? b = some o → h'.get? b = some o) → s.heap.objs.size ≤ d → (∃ n, h'.get? d = some (seqObj "list" out.toArray n)) → Q (.ref d) { s with heap := h' }) :
    wpAny (model prog w) A (call (.builtin "sorted") [.ref l]) Q E s := by
  refine sorted_ord (swo_lexL k) hl hz (fun h2 h₁ a ha kk => ?_) fun out hs hb => ?_
  · refine tupI_sortableO (s := { s with heap := h₁ }) (by omega) (fun v hm => ⟨(hp v hm).1.keeps fun b o e _ => (kk b o e).2, (hp v hm).2⟩) fun o e => ?_
    have e' : some o = some (seqObj "list" vs.toArray 0) := e.symm.trans ha
    cases e'
    intro c
    exact absurd (Value.type.inj c) (by decide)
  · exact h _ _ out hs hb (fun b o e => sortedAll_old e) (Nat.le_succ _) (sortedAll_at s.heap vs out.toArray)
end
/-- a sorted list of things told apart by their order is the only one of its items -/
theorem srt_uniq {α : Type} {lt : α → α → Bool} (O : Swo lt) : ∀ {l m : List α}, Srtd lt l → Srtd lt m → l.Perm m → (∀ x ∈ l, ∀ y ∈ l, lt x y = false → lt y x = false → x = y) → l = m
  | [], m, _, _, h, _ => (List.Perm.eq_nil h.symm).symm
  | x :: l, [], _, _, h, _ => absurd h.length_eq (by simp)
  | x :: l, y :: m, hl, hm, h, u => by
    have hx : x ∈ y :: m := h.mem_iff.mp List.mem_cons_self
    have hy : y ∈ x :: l := h.mem_iff.mpr List.mem_cons_self
    have h1 : lt x y = false := by
      rcases List.mem_cons.mp hx with e | hx
      · rw [e]; exact O.refl y
      · exact srtd_head hm x hx
    have h2 : lt y x = false := by
      rcases List.mem_cons.mp hy with e | hy
      · rw [e]; exact O.refl x
      · exact srtd_head hl y hy
    have e := u x List.mem_cons_self y hy h1 h2
    subst e
    rw [srt_uniq O (List.pairwise_cons.mp hl).2 (List.pairwise_cons.mp hm).2 h.cons_inv fun a ha b hb => u a (List.mem_cons_of_mem _ ha) b (List.mem_cons_of_mem _ hb)]
end SrtO
namespace L2
open PySem PySem.Spec PyProof.Rows
/-- sorted(xs), xs a list of tuples of ints (k says which), none of them empty -/
def rSortedTI (K : PySem.W.Frag) : List V → Hp → VK → Prop := fun vs H Q => ∃ (a : Addr) (xs : List V) (k : V → List Int), vs = [V.ref a] ∧ SqL K H a xs ∧ (∀ x ∈ xs, ∃ t, x = V.ref t ∧ H t = some (.tup ((k x).map V.int)) ∧ k x ≠ []) ∧
  ∀ ys p, SrtO.Srtd (fun v u => HT.lexLt (k v) (k u)) ys → ys.Perm xs → H p = none → Q (.ref p) (upd H p (.lst ys))
section
variable {X : Cx}
theorem cr_sortedTI : CallR X (.builtin "sorted") (rSortedTI X.K) := by
  intro pins s σ H vs us Q I r h
  obtain ⟨a, xs, k, rfl, hs, hx, q⟩ := h
  obtain ⟨its, rv, hl, hz⟩ := I.list hs
  obtain ⟨u, rfl, ru⟩ := vals1 r
  obtain rfl : u = Value.ref a := ru
  obtain ⟨e1, e2⟩ := refs_back rv fun x m => by
    obtain ⟨t, e, _⟩ := hx x m
    exact ⟨t, e⟩
  refine SrtO.sorted_tupI (k := fun u => k (backV u)) hl.isList (by rw [← rv.length]; exact hz) (fun v hv => ?_) fun h' d out h1 h2 kp hd hn => ?_
  · obtain ⟨t, rfl⟩ := e2 v hv
    have hm : V.ref t ∈ xs := by rw [e1]; exact List.mem_map.mpr ⟨_, hv, rfl⟩
    obtain ⟨t', e, ht, ne⟩ := hx _ hm
    cases e
    obtain ⟨_, its2, r2, o, ho, hc, n, hd⟩ := I.hok _ _ ht
    exact ⟨⟨t, o, _, n, rfl, ho, hc, hd, by have := r2.ints; rw [show (its2.toArray).toList = its2 by simp]; exact this⟩, ne⟩
  · have h3 : ∀ u ∈ out, ∃ a, u = Value.ref a := fun u hu => e2 u (h2.perm.mem_iff.mp hu)
    obtain ⟨n, hn⟩ := hn
    have hb : (out.map backV).Perm xs := by
      rw [e1]
      exact h2.perm.map backV
    refine ⟨.ref d, upd H d (.lst (out.map backV)), I.laid (t' := s.toks) kp hd ⟨?_, out, n, vals_back h3, hn⟩, rfl, q _ d (SrtO.srtd_map (lt := fun v u => HT.lexLt (k v) (k u)) h1) hb (I.hok.fresh hd)⟩
    rw [hb.length_eq]
    exact hz
end
end L2
namespace Pv
open PySem PySem.Spec PyProof.Rows L2
/-- what is compared when things are sorted -/
def intD : D → Int
  | .int i => i
  | _ => 0
def codD : D → List Int
  | .int i => [i]
  | .tuple ds => ds.map intD
  | _ => []
def isI : D → Bool
  | .int _ => true
  | _ => false
def isTI : D → Bool
  | .tuple ds => ds.all isI && !ds.isEmpty
  | _ => false
def ltD (x y : D) : Bool := HT.lexLt (codD x) (codD y)
def insD (x : D) : List D → List D
  | [] => [x]
  | y :: ys => if ltD y x then y :: insD x ys else x :: y :: ys
def srtD : List D → List D
  | [] => []
  | x :: xs => insD x (srtD xs)
theorem insD_perm (x : D) : ∀ l, (insD x l).Perm (x :: l)
  | [] => .refl _
  | y :: ys => by
    unfold insD
    split
    · exact ((insD_perm x ys).cons y).trans (.swap x y ys)
    · exact .refl _
theorem srtD_perm : ∀ l, (srtD l).Perm l
  | [] => .refl _
  | x :: xs => (insD_perm x _).trans ((srtD_perm xs).cons x)
theorem ltD_swo : SrtO.Swo ltD := SrtO.swo_lexL codD
theorem insD_srt (x : D) : ∀ l, SrtO.Srtd ltD l → SrtO.Srtd ltD (insD x l)
  | [], _ => SrtO.srtd_one x
  | y :: ys, h => by
    unfold insD
    split
    · rename_i hl
      refine List.pairwise_cons.mpr ⟨fun z hz => ?_, insD_srt x ys (List.pairwise_cons.mp h).2⟩
      rcases List.mem_cons.mp ((insD_perm x ys).mem_iff.mp hz) with e | e
      · rw [e]; exact ltD_swo.asym _ _ hl
      · exact SrtO.srtd_head h z e
    · rename_i hl
      have hl : ltD y x = false := by simpa using hl
      refine List.pairwise_cons.mpr ⟨fun z hz => ?_, h⟩
      rcases List.mem_cons.mp hz with e | e
      · rw [e]; exact hl
      · exact ltD_swo.tr _ _ _ hl (SrtO.srtd_head h z e)
theorem srtD_srt : ∀ l, SrtO.Srtd ltD (srtD l)
  | [] => List.Pairwise.nil
  | x :: xs => insD_srt x _ (srtD_srt xs)
theorem codD_inj {x y : D} (hx : isI x = true ∧ isI y = true ∨ isTI x = true ∧ isTI y = true) (h : codD x = codD y) : x = y := by
  rcases hx with ⟨h1, h2⟩ | ⟨h1, h2⟩
  · cases x <;> cases h1
    cases y <;> cases h2
    simp only [codD, List.cons.injEq, and_true] at h
    rw [h]
  · unfold isTI at h1 h2
    split at h1
    · rename_i ds
      split at h2
      · rename_i es
        simp only [codD] at h
        simp only [Bool.and_eq_true] at h1 h2
        have : ∀ (ds es : List D), ds.all isI = true → es.all isI = true → ds.map intD = es.map intD → ds = es := by
          intro ds
          induction ds with
          | nil => intro es _ _ h; cases es with | nil => rfl | cons => simp at h
          | cons d ds ih =>
            intro es h1 h2 h
            cases es with
            | nil => simp at h
            | cons e es =>
              rw [List.all_cons, Bool.and_eq_true] at h1 h2
              rw [List.map_cons, List.map_cons, List.cons.injEq] at h
              have hd : d = e := by
                cases d <;> cases h1.1
                cases e <;> cases h2.1
                have := h.1
                simp only [intD] at this
                rw [this]
              rw [hd, ih es h1.2 h2.2 h.2]
        rw [this _ _ h1.1 h2.1 h]
      · cases h2
    · cases h1
def oSorted : D → Option D
  | .list ds => if ds.all isI || ds.all isTI then some (.list (srtD ds)) else none
  | _ => none
section
variable {K : PySem.W.Frag} {X : Cx} {Γ Γ' Γ1 Γ2 Γ3 : List T} {H H' H1 H2 H3 : Hp} {Z Z' Z1 Z2 Z3 : FzT} {F F' F1 F2 : List Addr} {σ σ' σ1 : L2.St} {δ δ' : List D} {en eb ec er : List T} {et : T} {W W' : Ends}
theorem sha_ints : ∀ {xs : List V} {ds : List D}, ShA K H Z xs ds → ds.all isI = true → ∃ ns : List Int, xs = ns.map V.int ∧ ds = ns.map PyData.int
  | _, _, .nil, _ => ⟨[], rfl, rfl⟩
  | _, _, .cons (d := d) h r, q => by
    rw [List.all_cons, Bool.and_eq_true] at q
    obtain ⟨ns, rfl, rfl⟩ := sha_ints r q.2
    cases d with
    | int i => rw [h.intOf]; exact ⟨i :: ns, rfl, rfl⟩
    | _ => cases q.1
theorem ints_sha : ∀ (ns : List Int), ShA K H Z (ns.map V.int) (ns.map PyData.int)
  | [] => .nil
  | n :: ns => .cons (.int n) (ints_sha ns)
/-- the ints of a tuple -/
def codO : Option HO → List Int
  | some (.tup ys) => ys.map fun y => match y with | .int i => i | _ => 0
  | _ => []
def codV (H : Hp) : V → List Int
  | .ref b => codO (H b)
  | _ => []
theorem codV_int (ns : List Int) : ((ns.map V.int).map fun y => match y with | V.int i => i | _ => 0) = ns := by
  induction ns with
  | nil => rfl
  | cons n ns ih => rw [List.map_cons, List.map_cons, ih]
theorem sha_tups : ∀ {xs : List V} {ds : List D}, ShA K H Z xs ds → ds.all isTI = true → ds = xs.map (fun x => PyData.tuple ((codV H x).map .int)) ∧ ∀ x ∈ xs, ∃ t, x = V.ref t ∧ H t = some (.tup ((codV H x).map V.int)) ∧ codV H x ≠ []
  | _, _, .nil, _ => ⟨rfl, fun _ h => nomatch h⟩
  | _, _, .cons (v := v) (d := d) h r, q => by
    rw [List.all_cons, Bool.and_eq_true] at q
    obtain ⟨i1, i2⟩ := sha_tups r q.2
    have q1 := q.1
    unfold isTI at q1
    split at q1
    · rename_i es
      rw [Bool.and_eq_true] at q1
      cases h with
      | @tup a ys _ ha ra =>
        obtain ⟨ns, rfl, rfl⟩ := sha_ints ra q1.1
        have e : codV H (.ref a) = ns := by
          have : codV H (.ref a) = codO (H a) := rfl
          rw [this, ha]
          exact codV_int ns
        have ne : ns ≠ [] := fun z => by subst z; simp at q1
        refine ⟨by rw [List.map_cons, e, i1], fun x hx => ?_⟩
        rcases List.mem_cons.mp hx with rfl | hx
        · exact ⟨a, rfl, by rw [e]; exact ha, by rw [e]; exact ne⟩
        · exact i2 x hx
    · cases q1
theorem cSorted {e : Expr} {t : T} {f : EF} {x : Str} {p pos : Pos} (hg : Gl X x) (hm : X.mg x = none) (hv : bootBuiltins x = some (.builtin "sorted")) (ht : seqT t = true) (he : PE X e (tP X.K Γ t f)) (hn : x ≠ "__name__" := by decide) (hdb : (x == ("__debug__" : Str)) = false := by decide)
    (hs : starEach [e] X.env = (false, eval e X.env) :: starEach [] X.env := by rfl) :
    PE X (.Call (.Name x p) [e] [] pos) (tC X.K Γ (.ol .sh) (x1 oSorted f)) := (pe_callB (cr_sortedI.or cr_sortedTI) hg hm hv (pa_cons he pa_nil hs) hn hdb hs rfl).imp fun σ H Q ⟨δ, Z, F, d, ok, e, k⟩ => by
  obtain ⟨dl, e1, e2⟩ := Option.bind_eq_some_iff.mp e
  refine ⟨δ, Z, F, dl, ok, e1, fun v H1 Z1 g s1 r => ?_⟩
  cases dl with
  | list ds =>
    replace e2 : (if ds.all isI || ds.all isTI then some (PyData.list (srtD ds)) else none) = some d := e2
    split at e2
    · rename_i hall
      cases e2
      obtain ⟨a, xs, rfl, hq, sa⟩ : ∃ a xs, v = .ref a ∧ SqL X.K H1 a xs ∧ ShA X.K H1 Z1 xs ds := by
        cases r with
        | no => cases ht
        | sh h => cases h with | lst z r => exact ⟨_, _, rfl, z.sql, r⟩
        | @ol u _ _ _ _ h r =>
          cases u with
          | sh => exact ⟨_, _, rfl, SqL.of h, r.shA.1⟩
          | _ => cases ht
      have fin : ∀ (zs : List V) (p : Addr), ShA X.K H1 Z1 zs (srtD ds) → H1 p = none → Q (.ref p) (upd H1 p (.lst zs)) := fun zs p sz hp => k _ _ Z1 [p] (s1.trans (Ext.new hp)) (.ol upd_same (sz.ext (Ext.new hp)).repA) (by simp) fun b h => by
        have eb : b = p := by simpa using h
        subst eb
        exact ⟨Same.free s1.same hp, fun hz => (ok.ext s1).zs b hz hp⟩
      rw [Bool.or_eq_true] at hall
      rcases hall with hI | hT
      · obtain ⟨ns, rfl, rfl⟩ := sha_ints sa hI
        refine .inl ⟨a, ns, rfl, hq, fun ns' p h1 h2 hp => fin _ p ?_ hp⟩
        have e : srtD (ns.map PyData.int) = ns'.map PyData.int := by
          refine SrtO.srt_uniq ltD_swo (srtD_srt _) ?_ ((srtD_perm _).trans (h1.symm.map _)) fun x hx y hy l1 l2 => codD_inj (.inl ⟨?_, ?_⟩) (SrtO.lex_eq _ _ l1 l2)
          · refine List.pairwise_map.mpr (h2.imp fun {a b} h => ?_)
            show HT.lexLt [b] [a] = false
            rw [HT.lexLt_cons]
            split
            · rfl
            · exact decide_eq_false (by omega)
          · have := (srtD_perm _).mem_iff.mp hx
            obtain ⟨i, _, rfl⟩ := List.mem_map.mp this
            rfl
          · have := (srtD_perm _).mem_iff.mp hy
            obtain ⟨i, _, rfl⟩ := List.mem_map.mp this
            rfl
        rw [e]
        exact ints_sha ns'
      · obtain ⟨ed, hx⟩ := sha_tups sa hT
        refine .inr ⟨a, xs, codV H1, rfl, hq, hx, fun zs p h1 h2 hp => fin _ p ?_ hp⟩
        have hmem : ∀ z ∈ zs, ∃ d ∈ ds, Sh X.K H1 Z1 z d ∧ d = PyData.tuple ((codV H1 z).map .int) := fun z hz => by
          obtain ⟨n, hn⟩ := List.mem_iff_getElem?.mp (h2.mem_iff.mp hz)
          have hd : ds[n]? = some (PyData.tuple ((codV H1 z).map .int)) := by rw [ed, List.getElem?_map, hn]; rfl
          obtain ⟨v, e1, e2⟩ := sa.get hd
          rw [hn] at e1
          cases e1
          exact ⟨_, List.mem_of_getElem? hd, e2, rfl⟩
        have e : srtD ds = zs.map (fun x => PyData.tuple ((codV H1 x).map .int)) := by
          have hcod : ∀ z, codD (PyData.tuple ((codV H1 z).map .int)) = codV H1 z := fun z => by
            simp only [codD, List.map_map]
            have : (intD ∘ PyData.int) = id := rfl
            rw [this, List.map_id]
          refine SrtO.srt_uniq ltD_swo (srtD_srt _) ?_ ?_ fun x hx y hy l1 l2 => codD_inj (.inr ⟨?_, ?_⟩) (SrtO.lex_eq _ _ l1 l2)
          · refine List.pairwise_map.mpr (h1.imp fun {a b} h => ?_)
            show HT.lexLt (codD _) (codD _) = false
            rw [hcod, hcod]
            exact h
          · refine (srtD_perm _).trans ?_
            rw [ed]
            exact h2.symm.map _
          · exact List.all_eq_true.mp hT x ((srtD_perm _).mem_iff.mp hx)
          · exact List.all_eq_true.mp hT y ((srtD_perm _).mem_iff.mp hy)
        rw [e]
        have : ∀ (l : List V), (∀ z ∈ l, z ∈ zs) → ShA X.K H1 Z1 l (l.map (fun x => PyData.tuple ((codV H1 x).map .int))) := by
          intro l
          induction l with
          | nil => intro _; exact .nil
          | cons z l ih =>
            intro h
            obtain ⟨d, _, h1, h2⟩ := hmem z (h z List.mem_cons_self)
            rw [h2] at h1
            exact .cons h1 (ih fun y hy => h y (List.mem_cons_of_mem _ hy))
        exact this zs fun _ h => h
    · cases e2
  | _ => cases e2
end
end Pv

set_option Elab.async false
set_option linter.all false
set_option maxRecDepth 100000
/-! Pv17: the bottom of all calls; minus; the law itself. -/
namespace Pv
open PySem PySem.Spec PyProof.Rows L2
def f0 : List D → Option (D × List D) := fun _ => none
theorem fn_zero {P : Program} {w : World} {K : PySem.W.Frag} {mg : Str → Option Value} {base : Heap} {f : Addr} {fd : FuncData} {ps : List Str} {S : FS} {k : Nat} (h : S.f = f0) : FnOk P w K mg base CX0 k f fd ps (spF K S) := by
  refine ⟨fun vs H Q E q => ?_, fun A outer s H args us vs Q E _ _ _ _ q => ?_⟩
  · obtain ⟨ds, Z, F, d, ds', _, e, _⟩ := q
    rw [h] at e
    cases e
  · obtain ⟨ds, Z, F, d, ds', _, e, _⟩ := q
    rw [h] at e
    cases e
def dNeg : D → Option D
  | .int i => some (.int (-i))
  | _ => none
section
variable {K : PySem.W.Frag} {X : Cx} {Γ Γ' Γ1 Γ2 Γ3 : List T} {H H' H1 H2 H3 : Hp} {Z Z' Z1 Z2 Z3 : FzT} {F F' F1 F2 : List Addr} {σ σ' σ1 : L2.St} {δ δ' : List D} {en eb ec er : List T} {et : T} {W W' : Ends}
theorem cNeg {a : Expr} {f : EF} {pos : Pos} (ha : PE X a (tP X.K Γ .sh f)) : PE X (.UnaryOp .USub a pos) (tP X.K Γ .sh (x1 dNeg f)) := (pe_un un_neg ha).imp fun σ H Q ⟨δ, Z, F, d, ok, e, k⟩ => by
  obtain ⟨y, e1, e2⟩ := Option.bind_eq_some_iff.mp e
  unfold dNeg at e2
  split at e2
  · rename_i i
    cases e2
    refine ⟨δ, Z, F, _, ok, e1, fun v H1 Z1 g s1 r => ?_⟩
    exact ⟨_, r.shOf.1.intOf, k _ H1 Z1 [] s1 (.sh (.int _))⟩
  · cases e2
end
/-! ### the law: a list of ints comes in, True is to come out -/
theorem kl_of {K : PySem.W.Frag} {H : Hp} {a : Addr} {xs : List V} (h : SqL K H a xs) : Rd H a (.lst xs) ∨ KL K a xs := h
theorem spF_law {K : PySem.W.Frag} {f : List D → Option (D × List D)} (h : ∀ ns : List Int, ns.length ≤ 63 → ∃ ds', f [.list (ns.map .int)] = some (.bool true, ds')) (H : Hp) (a : Addr) (ns : List Int) (E : XK) (hl : ns.length ≤ 63) (hs : SqL K H a (ns.map V.int)) :
    spF K ⟨[.sh], [.no], .sh, f⟩ [.ref a] H (fun v _ => v = .bl true) E := by
  obtain ⟨ds', e⟩ := h ns hl
  have fin : ∀ Z : FzT, (∀ x, Z x → H x ≠ none) → FzL K H Z a (ns.map V.int) → spF K ⟨[.sh], [.no], .sh, f⟩ [.ref a] H (fun v _ => v = .bl true) E := fun Z hz hf => by
    refine ⟨[.list (ns.map .int)], Z, [], _, ds', ⟨?_, .nil, (fun _ q => nomatch q), hz⟩, e, fun v H' Z' F' g s o r nd dz => ?_⟩
    · exact Env.cons (f := []) (.sh (.lst hf (ints_sha ns))) .nil
    · exact r.shOf.1.blOf
  rcases kl_of hs with hs | hs
  · refine fin (fun x => x = a) (fun x hx => ?_) (.inl ⟨rfl, hs⟩)
    subst hx
    rcases hs with hs | ⟨o, hs⟩ <;> rw [hs] <;> exact fun z => nomatch z
  · exact fin (fun _ => False) (fun _ q => q.elim) (.inr hs)
end Pv

set_option Elab.async false
set_option linter.all false
set_option maxRecDepth 100000
/-! Pv18: odds and ends. -/
namespace Pv
open PySem PySem.Spec PyProof.Rows L2
def xmIoL (i : Nat) (r : LM) : LM := fun δ => (r δ).bind fun q => (q.2[i]?).map fun d => (d :: q.1, q.2)
theorem ro_len {α : Type} (pm : List Nat) (n : Nat) (h : pm.all (fun i => decide (i < n)) = true) : ∀ ds : List α, ds.length = n → (ro pm ds).length = pm.length := fun ds l => by
  induction pm with
  | nil => rfl
  | cons i pm ih =>
    rw [List.all_cons, Bool.and_eq_true] at h
    have hi : i < ds.length := by rw [l]; exact of_decide_eq_true h.1
    unfold ro at ih ⊢
    rw [List.filterMap_cons, List.getElem?_eq_getElem hi, List.length_cons, List.length_cons, ih h.2]
section
variable {K : PySem.W.Frag} {X : Cx} {Γ Γ' Γ1 Γ2 Γ3 : List T} {H H' H1 H2 H3 : Hp} {Z Z' Z1 Z2 Z3 : FzT} {F F' F1 F2 : List Addr} {σ σ' σ1 : L2.St} {δ δ' : List D} {en eb ec er : List T} {et : T} {W W' : Ends}
theorem zNevers {sts : List Stmt} : PSs X sts (tS X.K Γ ⟨en, eb, ec, er, et⟩ sNo) := pss_never.imp fun W σ H ⟨δ, Z, F, out, ok, e, p⟩ => nomatch e
theorem zWkn {n' : List T} {st : List Stmt} {f : SF} (h : PSs X st (tS X.K Γ ⟨n', eb, ec, er, et⟩ f)) (hn : wk n' en = true) : PSs X st (tS X.K Γ ⟨en, eb, ec, er, et⟩ f) :=
  h.imp fun W σ H ⟨δ, Z, F, out, ok, e, p⟩ => by
    refine ⟨δ, Z, F, out, ok, e, ?_⟩
    cases out with
    | nx δ' =>
      intro σ' H' Z' F' s o fx
      obtain ⟨F2, o2, sb⟩ := o.weak hn
      exact p σ' H' Z' F2 (s.sub fun x hx => sb.subset hx) o2 fx
    | bk δ' => exact p
    | ct δ' => exact p
    | rt d δ' => exact p
/-- an argument that is a slot's own list, which the arguments behind it change -/
theorem aMIoL (i : Nat) {x : Str} {pos : Pos} {t : T} {ts : List T} {gb : List (Option Nat)} {r : LM} {es : List Expr} (ht1 : Γ[i]? = some t) (ht : Γ2[i]? = some t) (hn : t ≠ .no) (h : PE X (.Name x pos) (tVar i)) (hr : PA X es (aM X.K Γ Γ2 ts gb r))
    (hs : starEach (.Name x pos :: es) X.env = (false, eval (.Name x pos) X.env) :: starEach es X.env := by rfl) :
    PA X (.Name x pos :: es) (aM X.K Γ (Γ2.set i .no) (t :: ts) (some i :: gb) (xmIoL i r)) := (pa_cons h hr hs).imp fun σ H Q ⟨δ, Z, F, ds, δ', ok, e, k⟩ => by
  obtain ⟨⟨ds', δ2⟩, e3, e4⟩ := Option.bind_eq_some_iff.mp e
  obtain ⟨d, e5, e6⟩ := Option.map_eq_some_iff.mp e4
  cases e6
  have hi : i < Γ.length := (List.getElem?_eq_some_iff.mp ht1).1
  obtain ⟨d0, hd0⟩ : ∃ d, δ[i]? = some d := ⟨δ[i]'(by rw [ok.env.len.2]; exact hi), by simp [ok.env.len.2, hi]⟩
  obtain ⟨v, g0, h1, _⟩ := ok.env.get ht1 hn hd0
  refine ⟨v, h1, δ, Z, F, ds', δ2, ok, e3, fun vs H2 Z2 F2 g2 s2 ok2 r2 nd2 dz2 gv => ?_⟩
  obtain ⟨v', F1, g1, h1', h2', h3', h4', h5'⟩ := ok2.take ht hn e5
  rw [h1] at h1'
  cases h1'
  have nd3 : (F1 ++ (g1 ++ g2)).Nodup := by
    have := nd_set nd2 h4' h5'
    rw [List.append_assoc] at this
    exact this
  refine k (v :: vs) H2 Z2 F1 (g1 ++ g2) (s2.sub fun a ha => ?_) h3' (.cons h2' r2) nd3 (fun a ha => (List.mem_append.mp ha).elim (fun h => ok2.dz a (h5' a (List.mem_append_right _ h))) (dz2 a)) ⟨h1, gv⟩
  simp only [List.mem_append] at ha ⊢
  rcases ha with h | h | h
  · exact .inl (h5' a (List.mem_append_left _ h))
  · exact .inl (h5' a (List.mem_append_right _ h))
  · exact .inr h
theorem mCallB {x : Str} {p pos : Pos} {e : Expr} {es : List Expr} {id : String} {r : List V → Hp → VK → Prop} {ts : List T} {gb : List (Option Nat)} {o : List D → Option D} {f : LM} (hc : CallR X (.builtin id) r) (hs : CalS X.K r ts .sh o) (ht : ts.all (· == .sh) = true) (hg : Gl X x) (hm : X.mg x = none) (hv : bootBuiltins x = some (.builtin id))
    (ha : PA X (e :: es) (aM X.K Γ Γ' ts gb f)) (hn : x ≠ "__name__" := by decide) (hdb : (x == ("__debug__" : Str)) = false := by decide)
    (he : starEach (e :: es) X.env = (false, eval e X.env) :: starEach es X.env := by rfl) (hpl : (backTo pos (starEach es X.env)).any (·.1) = false := by rfl) : PE X (.Call (.Name x p) (e :: es) [] pos) (tM X.K Γ Γ' .sh (xLM o f)) :=
  (pe_callB hc hg hm hv ha hn hdb he hpl).imp fun _ _ _ => pLM hs ht
end
end Pv

set_option Elab.async false
set_option linter.all false
set_option maxRecDepth 100000
/-! Pv19: while; truth; own lists read by a pure part; a dict of one key; list(d), extend, sum, is; pairs with a part of one's own. -/
namespace Pv
open PySem PySem.Spec PyProof.Rows L2
/-! ### while -/
def whileL (c : BF) (b : SF) : Nat → List D → Option Out
  | 0, _ => none
  | n + 1, δ => (c δ).bind fun k => if k then (b δ).bind fun o => match o with
    | .nx δ' => whileL c b n δ'
    | .ct δ' => whileL c b n δ'
    | .bk δ' => some (.nx δ')
    | .rt d δ' => some (.rt d δ') else some (.nx δ)
def fuelD : Nat := 1000000000
def sWhile (c : BF) (b : SF) : SF := whileL c b fuelD
/-! ### truth -/
def truD : D → Option Bool
  | .none => some false
  | .bool b => some b
  | .int i => some (i != 0)
  | .list ds => some (!ds.isEmpty)
  | .tuple ds => some (!ds.isEmpty)
  | _ => none
def bTr (f : EF) : BF := fun δ => (f δ).bind truD
def xFlat (f : EF) : EF := fun δ => (f δ).bind fun d => if flatD d then some d else none
def xDict1 (fk fv : EF) : EF := fun δ => (fk δ).bind fun k => (fv δ).bind fun v => if (ikey k).isSome then some (.dict [(k, v)]) else none
def oLstD : List D → Option D
  | [d] => (dictOf d).bind fun p => if p.1 then none else some (.list (p.2.map Prod.fst))
  | _ => none
def xExt (i : Nat) (f : EM) : EM := fun δ => (f δ).bind fun p => match p.1 with
  | .list ys => (getL p.2 i).bind fun ds => if ds.length + ys.length ≤ sizeLine then some (.none, p.2.set i (.list (ds ++ ys))) else none
  | _ => none
def intsD : List D → Option (List Int)
  | [] => some []
  | .int i :: ds => (intsD ds).map (i :: ·)
  | _ :: _ => none
def oSum : List D → Option D
  | [.list ds] => (intsD ds).map fun ns => .int ns.sum
  | _ => none
def dIsB : D → D → Option D
  | .bool a, .bool b => some (.bool (decide (a = b)))
  | _, _ => none
def dNotB : D → D → Option D
  | .bool a, .bool b => some (.bool (!decide (a = b)))
  | _, _ => none
def mkPr : List D → Option D
  | [a, b] => some (.tuple [a, b])
  | _ => none
def sUnpPr (i j : Nat) (f : EM) : SF := fun δ => (f δ).bind fun p => match p.1 with
  | .tuple [a, b] => some (.nx ((p.2.set i a).set j b))
  | _ => none
section
variable {K : PySem.W.Frag} {X : Cx} {Γ Γ' Γ1 Γ2 Γ3 : List T} {H H' H1 H2 H3 : Hp} {Z Z' Z1 Z2 Z3 : FzT} {F F' F1 F2 : List Addr} {σ σ' σ1 : L2.St} {δ δ' : List D} {en eb ec er : List T} {et : T} {W W' : Ends}
theorem zWhile {c : Expr} {body : List Stmt} {pos : Pos} {cf : BF} {b : SF} (hp : PassesOwn (model X.prog X.w) X.A X.env X.xe) (hc : PT X c (bP X.K Γ cf)) (hb : PSs X body (tS X.K Γ ⟨Γ, Γ, Γ, er, et⟩ b)) :
    PS X (.While c body [] pos) (tS X.K Γ ⟨Γ, eb, ec, er, et⟩ (sWhile cf b)) := (ps_while hp hc hb).imp fun W σ H ⟨δ, Z, F, out, ok, e, p⟩ => by
  refine ⟨fun m σi Hi => ∃ δi Zi Fi, Ok X.K Γ σi δi Hi Zi Fi ∧ whileL cf b m δi = some out ∧ Stp H Z F Hi Zi Fi ∧ Fix er σ σi, ⟨fuelD, δ, Z, F, ok, e, .refl, .refl _ _⟩, fun m σi Hi ⟨δi, Zi, Fi, oki, ei, si, fi⟩ => ?_⟩
  cases m with
  | zero => cases ei
  | succ m =>
    obtain ⟨k, ek, e2⟩ := Option.bind_eq_some_iff.mp ei
    refine ⟨δi, Zi, Fi, k, oki, ek, fun H1 Z1 s1 => ?_⟩
    cases k with
    | true =>
      rw [if_pos rfl] at e2
      rw [if_pos rfl]
      obtain ⟨o, eo, e3⟩ := Option.bind_eq_some_iff.mp e2
      refine ⟨fun σ' H' => ∃ δ' Z' F', Ok X.K Γ σ' δ' H' Z' F' ∧ whileL cf b m δ' = some out ∧ Stp H Z F H' Z' F' ∧ Fix er σ σ', fun σ' H' q => ⟨m, Nat.lt_succ_self m, q⟩, δi, Z1, Fi, o, oki.ext s1, eo, ?_⟩
      have s4 : Stp H Z F H1 Z1 Fi := si.trans s1.stp
      cases o with
      | nx δ' => exact fun σ' H' Z' F' s' o' fx => ⟨δ', Z', F', o', e3, s4.trans s', fi.trans fx⟩
      | ct δ' => exact fun σ' H' Z' F' s' o' fx => ⟨δ', Z', F', o', e3, s4.trans s', fi.trans fx⟩
      | bk δ' => cases e3; exact fun σ' H' Z' F' s' o' fx => p σ' H' Z' F' (s4.trans s') o' (fi.trans fx)
      | rt d δ' => cases e3; exact fun v σ' H' Z' F' g s' o' fx r nd dz => p v σ' H' Z' F' g (s4.trans s') o' (fi.trans fx) r nd dz
    | false =>
      rw [if_neg Bool.false_ne_true] at e2
      rw [if_neg Bool.false_ne_true]
      cases e2
      exact p σi H1 Z1 Fi (si.trans s1.stp) (oki.ext s1) fi
def truT : T → Bool
  | .sh => true
  | .ol .sh => true
  | _ => false
theorem len_empty {α β : Type} {xs : List α} {ds : List β} (h : xs.length = ds.length) : xs.isEmpty = ds.isEmpty := by
  cases xs <;> cases ds <;> simp_all
theorem tru_rep {t : T} {v : V} {d : D} {g : List Addr} {k : Bool} (ht : truT t = true) (r : Rep K H Z t v d g) (e : truD d = some k) : TruV K v H k := by
  have fin : ∀ {d : D}, Sh K H Z v d → truD d = some k → TruV K v H k := fun {d} s e => by
    cases s with
    | non => cases e; exact rfl
    | bl b => cases e; exact rfl
    | int i => cases e; exact rfl
    | lst z r0 => cases e; exact .inl ⟨_, z.sql, by rw [len_empty r0.len]⟩
    | tup h r0 => cases e; exact .inr (.inl ⟨_, SqT.of h, by rw [len_empty r0.len]⟩)
    | _ => cases e
  cases r with
  | no => cases ht
  | sh s => exact fin s e
  | @ol u _ _ _ _ h r => cases e; exact .inl ⟨_, SqL.of h, by rw [len_empty (Rep.len r)]⟩
  | _ => cases ht
theorem qTruth {t : T} {f : EF} {a : Expr} (ht : truT t = true) (ha : PE X a (tP X.K Γ t f)) (he : ∀ whole, isTrue a X.env whole = (do let v ← whole; standAt a.pos; holding [v] (truthy v)) := by intro _; rfl) : PT X a (bP X.K Γ (bTr f)) :=
  (pt_truth ha he).imp fun σ H Q ⟨δ, Z, F, b, ok, e, k⟩ => by
  obtain ⟨d, e1, e2⟩ := Option.bind_eq_some_iff.mp e
  exact ⟨δ, Z, F, d, ok, e1, fun v H1 Z1 g s1 r1 => ⟨b, tru_rep ht r1 e2, k H1 Z1 s1⟩⟩
/-! ### a list of one's own, seen as if it stayed -/
theorem Ok.frzAt {i : Nat} {t : T} (ok : Ok K Γ σ δ H Z F) (ht : Γ[i]? = some t) (hf : t.full = true) : ∃ Z2 F2, Ok K (Γ.set i .sh) σ δ H Z2 F2 := by
  have hn : t ≠ .no := fun z => by rw [z] at hf; cases hf
  have hi : i < Γ.length := (List.getElem?_eq_some_iff.mp ht).1
  obtain ⟨d, hd⟩ : ∃ d, δ[i]? = some d := ⟨δ[i]'(by rw [ok.env.len.2]; exact hi), by simp [ok.env.len.2, hi]⟩
  obtain ⟨v, F', g, h1, h2, h3, h4, h5⟩ := ok.take ht hn hd
  have o1 := h3.freeze h4 h2.mu
  have sh : Sh K H (zu Z g) v d := h2.frz (fun _ => .inl) hf fun _ => .inr
  obtain ⟨F2, o2, sb⟩ := o1.set (i := i) (t := .sh) (v := v) (d := d) (g := []) (by simpa using hi) (.sh sh) (by simpa using o1.nd) (fun _ q => nomatch q)
  rw [set_self h1, set_self hd, List.set_set] at o2
  exact ⟨_, F2, o2⟩
theorem Ext.back (ok : Ok K Γ σ δ H Z F) (s : Ext H Z1 H' Z1') : Ext H Z H' Z :=
  ⟨s.keep, fun _ h => h, (fun _ q => nomatch q), fun _ h => .inl h, s.live, fun _ h => .inl h⟩
theorem qBorrow (i : Nat) {t : T} {f : BF} {c : Expr} (ht : Γ[i]? = some t) (hf : t.full = true) (h : PT X c (bP X.K (Γ.set i .sh) f)) : PT X c (bP X.K Γ f) := h.imp fun σ H Q ⟨δ, Z, F, b, ok, e, k⟩ => by
  obtain ⟨Z2, F2, o2⟩ := ok.frzAt ht hf
  exact ⟨δ, Z2, F2, b, o2, e, fun H' Z' s => k H' Z (s.back ok)⟩
theorem Sh.flat {v : V} {d : D} (h : Sh K H Z v d) (f : flatD d = true) : Sh K H' Z' v d := by
  cases h with
  | non => exact .non
  | bl b => exact .bl b
  | int i => exact .int i
  | str x => exact .str x
  | _ => cases f
theorem cBorrow (i : Nat) {t : T} {f : EF} {c : Expr} (ht : Γ[i]? = some t) (hf : t.full = true) (h : PE X c (tP X.K (Γ.set i .sh) .sh f)) : PE X c (tP X.K Γ .sh (xFlat f)) := h.imp fun σ H Q ⟨δ, Z, F, d, ok, e, k⟩ => by
  obtain ⟨Z2, F2, o2⟩ := ok.frzAt ht hf
  obtain ⟨d', e1, e2⟩ := Option.bind_eq_some_iff.mp e
  split at e2
  · rename_i hfl
    cases e2
    exact ⟨δ, Z2, F2, d, o2, e1, fun v H' Z' g s r => k v H' Z [] (s.back ok) (.sh (r.shOf.1.flat hfl))⟩
  · cases e2
/-! ### {k: v} -/
theorem cDict1 {a b : Expr} {pos : Pos} {fk fv : EF} (ha : PE X a (tP X.K Γ .sh fk)) (hb : PE X b (tP X.K Γ .sh fv)) : PE X (.Dict [some a] [b] pos) (tC X.K Γ (.dk .sh) (xDict1 fk fv)) :=
  (pe_disp (pps_cons ha hb pps_nil) rfl rfl (fun z => nomatch z) (by simp)).imp fun σ H Q ⟨δ, Z, F, d, ok, e, kq⟩ => by
  obtain ⟨x, ex, e⟩ := Option.bind_eq_some_iff.mp e
  obtain ⟨y, ey, e⟩ := Option.bind_eq_some_iff.mp e
  split at e
  · rename_i hk
    cases e
    obtain ⟨ky, hky⟩ := Option.isSome_iff_exists.mp hk
    have ek := ikey_eq hky
    subst ek
    intro p hp
    have s0 : Ext H Z (upd H p (.dK [])) Z := Ext.new hp
    have ok0 := ok.ext s0
    refine ⟨δ, Z, F, kD ky, ok0, ex, fun v H1 Z1 g1 s1 r1 => ⟨δ, Z1, F, y, ok0.ext s1, ey, fun w H2 Z2 g2 s2 r2 => ?_⟩⟩
    obtain ⟨rs, rfl⟩ := r2.shOf
    obtain rfl := r1.shOf.1.keyK
    have s12 : Ext (upd H p (.dK [])) Z H2 Z2 := s1.trans s2
    have hp2 : H2 p = some (.dK []) := s12.keep p _ upd_same (by simp)
    have nz : ¬ Z2 p := fun z => by
      rcases s12.frz p z with h | h | h
      · exact ok.zs p h hp
      · exact nomatch h
      · rw [upd_same] at h; cases h
    have su : Stp H2 Z2 [p] (upd H2 p (.dK [(ky, w)])) Z2 [p] := Stp.upd (by simp)
    have mu : Mu H2 [p] := fun x hx => by simp only [List.mem_singleton] at hx; subst hx; exact ⟨_, hp2, rfl⟩
    have dz : ∀ x ∈ [p], ¬ Z2 x := fun x hx => by simp only [List.mem_singleton] at hx; rw [hx]; exact nz
    have rs' := rs.step su mu dz
    show H2 p = some (.dK []) ∧ _
    refine ⟨hp2, [(ky, w)], rfl, by simp, ?_⟩
    have em : mergeK [] [(ky, w)] = [(ky, w)] := rfl
    rw [em]
    refine kq (.ref p) _ Z2 [p] ((s0.trans s12).updNew hp) (.dk (kvs := [(ky, w)]) upd_same rfl (ShA.repA (.cons rs' .nil))) (by simp) fun a ha => ?_
    have ea : a = p := by simpa using ha
    subst ea
    exact ⟨hp, nz⟩
  · cases e
/-! ### list(d) -/
theorem cLstD {e : Expr} {t : T} {f : LF} {p pos : Pos} (hc : X.calm = true) (hg : Gl X "list") (hm : X.mg "list" = none) (ht : isDct t = true) (ha : PA X [e] (aP X.K Γ [t] f)) (he : starEach [e] X.env = (false, eval e X.env) :: starEach [] X.env := by rfl) :
    PE X (.Call (.Name "list" p) [e] [] pos) (tC X.K Γ (.ol .sh) (xL oLstD f)) :=
  (pe_callTy (call_listD hc) hg hm boot_list ha (by decide) (by decide) he (by rfl)).imp fun σ H Q ⟨δ, Z, F, d, ok, e, k⟩ => by
  obtain ⟨ds, e1, e2⟩ := Option.bind_eq_some_iff.mp e
  refine ⟨δ, Z, F, ds, ok, e1, fun vs H1 Z1 g s1 en => ?_⟩
  unfold oLstD at e2
  split at e2
  · rename_i dx
    obtain ⟨⟨b, kvd⟩, e3, e4⟩ := Option.bind_eq_some_iff.mp e2
    obtain ⟨v, g', rfl, r⟩ := vs1t (fun z => by rw [z] at ht; cases ht) en
    cases b with
    | true => cases e4
    | false =>
      replace e4 : some (PyData.list (kvd.map Prod.fst)) = some d := e4
      cases e4
      have key : ∃ (a : Addr) (kvs : List (Key × V)), v = .ref a ∧ Rd H1 a (.dK kvs) ∧ kvd.map Prod.fst = kvs.map (fun p => kD p.1) := by
        unfold isDct at ht
        split at ht
        · obtain ⟨r', _⟩ := r.shOf
          cases r' with
          | @dk a od kvs kvd' z h ek r' =>
            obtain ⟨_, rfl⟩ := dictOf_dk ek e3
            exact ⟨a, kvs, rfl, .inr ⟨od, h⟩, ek⟩
          | dt z h ek r' => cases e3
          | _ => cases e3
        · cases r with
          | @dk _ a kvs kvd' f h ek r =>
            obtain ⟨_, rfl⟩ := dictOf_dk ek e3
            exact ⟨a, kvs, rfl, .inl h, ek⟩
        · cases r with
          | dt h ek r => cases e3
        · cases ht
      obtain ⟨a, kvs, rfl, hr, ek⟩ := key
      refine ⟨a, kvs, rfl, hr, fun l hl => k (.ref l) _ Z1 [l] (s1.trans (Ext.new hl)) (.ol upd_same ?_) (by simp) fun x hx => ?_⟩
      · rw [ek]
        have e3 : (kvs.map fun kv => kV kv.1) = (kvs.map Prod.fst).map kV := by rw [List.map_map]; rfl
        have e4 : (kvs.map fun kv => kD kv.1) = (kvs.map Prod.fst).map kD := by rw [List.map_map]; rfl
        rw [e3, e4]
        exact sha_kD.repA
      · have ea : x = l := by simpa using hx
        subst ea
        exact ⟨Same.free s1.same hl, fun hz => (ok.ext s1).zs x hz hl⟩
  · cases e2
/-! ### x.extend(ys) -/
theorem mExt (i : Nat) {c : Expr} {f : EM} (h : PE X c (tBM X.K "list" rExtend (tVar i) (tCons (tM X.K Γ Γ' (.ol .sh) f) tNil))) (ht : Γ[i]? = some (.ol .sh)) (ht' : Γ'[i]? = some (.ol .sh)) : PE X c (tM X.K Γ Γ' .sh (xExt i f)) :=
  h.imp fun σ H Q ⟨δ, Z, F, d, δ', ok, e, k⟩ => by
  obtain ⟨⟨y, δ1⟩, e1, e2⟩ := Option.bind_eq_some_iff.mp e
  cases y with
  | list es =>
    obtain ⟨ds, e3, e4⟩ := Option.bind_eq_some_iff.mp e2
    split at e4
    · rename_i hlt
      cases e4
      obtain ⟨a0, xs0, hv, hH⟩ := recv ok ht
      refine ⟨.ref a0, hv, .inl ⟨rfl, xs0, SqL.of hH⟩, δ, Z, F, .list es, δ1, ok, e1, fun v H1 Z1 F1 g1 s1 ok1 r1 nd1 dz1 => ?_⟩
      obtain ⟨a, xs, fs, F2, hv', ha, ra, o2, nd2, sb2⟩ := ok1.opn ht' (getL_eq e3)
      rw [hv] at hv'
      have ea : a0 = a := by simpa using hv'
      subst ea
      obtain ⟨b, zs, ds', gs, rfl, e5, rfl, hb, rb⟩ := ofList r1
      cases e5
      obtain ⟨sa, rfl⟩ := ra.shA
      obtain ⟨sb, rfl⟩ := rb.shA
      have dz4 : ∀ x ∈ [a0], ¬ Z1 x := fun x hx => by simp only [List.mem_singleton] at hx; rw [hx]; exact ok1.dz a0 (sb2 a0 (by simp))
      have su : Stp H1 Z1 [a0] (upd H1 a0 (.lst (xs ++ zs))) Z1 [a0] := Stp.upd (by simp)
      have mu : Mu H1 [a0] := Mu.one ha
      have rN : RepA X.K (upd H1 a0 (.lst (xs ++ zs))) Z1 .sh (xs ++ zs) (ds ++ es) [] := ((sa.app sb).step su mu dz4).repA
      obtain ⟨F3, o3, sb3⟩ := o2.put ht' hv ha nd2 dz4 rN
      refine ⟨a0, b, xs, zs, rfl, rfl, ha, hb, by rw [sa.len, sb.len]; exact hlt, k .non _ Z1 F3 [] ?_ o3 (.sh .non) (by simpa using o3.nd) (fun _ q => nomatch q)⟩
      have h1 : a0 ∈ F1 ++ [b] := List.mem_append_left _ (sb2 a0 (by simp))
      exact (s1.trans (Stp.upd h1)).sub fun x hx => List.mem_append_left _ (sb2 x (sb3 x (by simpa using hx)))
    · cases e4
  | _ => cases e2
/-! ### sum -/
theorem ints_V : ∀ {xs : List V} {ds : List D} {ns : List Int}, ShA K H Z xs ds → intsD ds = some ns → xs = ns.map V.int
  | _, _, _, .nil, e => by cases e; rfl
  | _, _, _, .cons h r, e => by
    unfold intsD at e
    split at e
    · rename_i h0; cases h0
    · rename_i i ds' h0
      cases h0
      obtain ⟨ns', e1, e2⟩ := Option.map_eq_some_iff.mp e
      subst e2
      rw [h.intOf, ints_V r e1]
      rfl
    · cases e
theorem sum_s {t : T} (ht : seqT t = true) : CalS K (rSum K) [t] .sh oSum := by
  intro H Z vs ds d g Q en e k
  unfold oSum at e
  split at e
  · rename_i es
    obtain ⟨ns, e1, e2⟩ := Option.map_eq_some_iff.mp e
    cases e2
    obtain ⟨v, g', rfl, r⟩ := vs1t (fun z => by rw [z] at ht; cases ht) en
    have key : ∃ a xs, v = .ref a ∧ SqL K H a xs ∧ ShA K H Z xs es := by
      cases r with
      | no => cases ht
      | sh h => cases h with | lst z r => exact ⟨_, _, rfl, z.sql, r⟩
      | @ol u _ _ _ _ h r =>
        cases u with
        | sh => exact ⟨_, _, rfl, SqL.of h, r.shA.1⟩
        | _ => cases ht
    obtain ⟨a, xs, rfl, hq, sa⟩ := key
    obtain rfl := ints_V sa e1
    exact ⟨a, ns, rfl, hq, k _ H Z [] .refl (.sh (.int _))⟩
  · cases e
/-! ### is of bools -/
theorem isB_s : OpS K rIsB .sh .sh .sh dIsB := by
  intro H Z x y dx dy d f g Q rx ry e k
  unfold dIsB at e
  split at e
  · rename_i a b
    cases e
    obtain ⟨rfl, _⟩ := toB_sh rx.shOf.1 rfl
    obtain ⟨rfl, _⟩ := toB_sh ry.shOf.1 rfl
    exact ⟨a, b, rfl, rfl, k _ H Z [] .refl (.sh (.bl _))⟩
  · cases e
theorem notB_s : OpS K rNotB .sh .sh .sh dNotB := by
  intro H Z x y dx dy d f g Q rx ry e k
  unfold dNotB at e
  split at e
  · rename_i a b
    cases e
    obtain ⟨rfl, _⟩ := toB_sh rx.shOf.1 rfl
    obtain ⟨rfl, _⟩ := toB_sh ry.shOf.1 rfl
    exact ⟨a, b, rfl, rfl, k _ H Z [] .refl (.sh (.bl _))⟩
  · cases e
/-! ### pairs with a part of one's own -/
theorem mPr {x1} {es : List Expr} {pos : Pos} {s t : T} {gb : List (Option Nat)} {f : LM} (h : PA X es (aM X.K Γ Γ' [s, t] gb f)) (hs : s ≠ .no := by decide) (ht : t ≠ .no := by decide) : PE X (.Tuple es x1 pos) (tM X.K Γ Γ' (.pr s t) (xLM mkPr f)) :=
  (pe_tup h).imp fun σ H Q ⟨δ, Z, F, d, δ', ok, e, k⟩ => by
    obtain ⟨⟨ds, δ1⟩, eds, e⟩ := Option.bind_eq_some_iff.mp e
    obtain ⟨d', e', e''⟩ := Option.map_eq_some_iff.mp e
    cases e''
    replace e' : mkPr ds = some d := e'
    unfold mkPr at e'
    split at e'
    · rename_i da db
      cases e'
      refine ⟨δ, Z, F, _, δ1, ok, eds, fun vs H1 Z1 F1 g s1 ok1 r1 nd1 dz1 gv => ?_⟩
      have l := r1.len.1
      match vs, l, r1 with
      | [v, w], _, r1 =>
        cases r1 with
        | no => exact absurd rfl hs
        | @cons _ _ _ _ _ _ ga gr ra rr =>
          cases rr with
          | no => exact absurd rfl ht
          | @cons _ _ _ _ _ _ gb' gr' rb rr =>
            cases rr
            rw [List.append_nil] at *
            refine ⟨by have : 100000 < sizeLine := by decide
                       show 2 ≤ sizeLine; omega, fun p hp => ?_⟩
            exact k _ _ Z1 F1 (ga ++ gb') (s1.trans (Ext.stp (Ext.new hp))) (ok1.ext (Ext.new hp)) (.pr upd_same (ra.ext (Ext.new hp)) (rb.ext (Ext.new hp))) nd1 dz1
    · cases e'
theorem zUnpPr {i j : Nat} {x y : Str} {px py pt pos : Pos} {kk : Nat} {e : Expr} {s t : T} {f : EM} (hc : X.calm = true) (hN : X.N.Nodup) (hi : X.N[i]? = some x) (hj : X.N[j]? = some y) (hx : Loc X.env.scope x) (hy : Loc X.env.scope y)
    (he : PE X e (tM X.K Γ Γ' (.pr s t) f)) (hli : i < Γ'.length) (hlj : j < Γ'.length) (hr : noIx er [i, j] = true)
    (hfx : X.fn x = true ∨ X.env.scope.names.lookup x = some .local := by first | exact .inl rfl | exact .inr rfl | assumption) (hfy : X.fn y = true ∨ X.env.scope.names.lookup y = some .local := by first | exact .inl rfl | exact .inr rfl | assumption)
    (hs : swapsWithSole [.Tuple [.Name x px, .Name y py] kk pt] e pos.line X.env = pure false := by rfl) (hw : swappedStores [.Tuple [.Name x px, .Name y py] kk pt] e X.env = pure none := by rfl)
    (h1 : (assignEach [.Tuple [.Name x px, .Name y py] kk pt] X.env).map (·.2) = [assign (.Tuple [.Name x px, .Name y py] kk pt) X.env] := by rfl)
    (h2 : (assignEach [.Name x px, .Name y py] X.env).map (·.2) = assign (.Name x px) X.env :: (assignEach [.Name y py] X.env).map (·.2) := by rfl) (h3 : (assignEach [.Name y py] X.env).map (·.2) = assign (.Name y py) X.env :: (assignEach [] X.env).map (·.2) := by rfl)
    (h4 : (assignEach [.Name x px, .Name y py] X.env).length = 2 := by rfl) (h5 : (assignEach [.Name x px, .Name y py] X.env).findIdx? (·.1) = none := by rfl) :
    PS X (.Assign [.Tuple [.Name x px, .Name y py] kk pt] e pos) (tS X.K Γ ⟨(Γ'.set i s).set j t, eb, ec, er, et⟩ (sUnpPr i j f)) :=
  (ps_asg he (pg_tup hc (pgs_cons (pg_name hN hi hx hfx) (pgs_cons (pg_name hN hj hy hfy) pgs_nil h3) h2) h4 h5) hs hw h1).imp fun W σ H ⟨δ, Z, F, out, ok, e, p⟩ => by
  obtain ⟨⟨d, δ'⟩, e1, e2⟩ := Option.bind_eq_some_iff.mp e
  have e3 : ∃ a b, d = .tuple [a, b] ∧ out = .nx ((δ'.set i a).set j b) := by
    dsimp only at e2
    split at e2
    · cases e2; exact ⟨_, _, rfl, rfl⟩
    · cases e2
  obtain ⟨a, b, rfl, rfl⟩ := e3
  · skip
    refine ⟨δ, Z, F, _, δ', ok, e1, fun v H' Z' F' g s o r nd dz => ?_⟩
    cases r with
    | @pr _ _ ad vx vy _ _ ga gb ht ra rb =>
      have nd' : ((F' ++ ga) ++ gb).Nodup := by rw [List.append_assoc]; exact nd
      obtain ⟨F1, o1, sb1⟩ := o.set hli ra (List.nodup_append.mp nd').1 fun a h => dz a (List.mem_append_left _ h)
      have nd2 : (F1 ++ gb).Nodup := nodup_app o1.nd (List.nodup_append.mp nd').2.1 fun a h1 h2 => nd_apart nd' a h1 (sb1 a h2)
      obtain ⟨F2, o2, sb2⟩ := o1.set (by rw [List.length_set]; exact hlj) rb nd2 fun a h => dz a (List.mem_append_right _ h)
      refine ⟨ad, [vx, vy], rfl, SqT.of ht, rfl, vx, [vy], rfl, vy, [], rfl, rfl, p _ H' Z' F2 (s.sub fun a h => ?_) o2 (fix_ix hr fun k hk => ?_)⟩
      · rcases List.mem_append.mp (sb2 a h) with h | h
        · have := sb1 a h
          simp only [List.mem_append] at this ⊢
          rcases this with h | h
          · exact .inl h
          · exact .inr (.inl h)
        · simp only [List.mem_append]
          exact .inr (.inr h)
      · rw [List.getElem?_set_ne (fun z => hk (by simp [z])), List.getElem?_set_ne (fun z => hk (by simp [z]))]
end
end Pv

set_option Elab.async false
set_option linter.all false
set_option maxRecDepth 100000
/-! Pv20: exceptions of own classes with two fields: raise, a def that raises, try .. except X as e, e.f. -/
namespace Pv
open PySem PySem.Spec PyProof.Rows L2
abbrev XD := List (Str × D)
abbrev RF := List D → Option (XD × List D)
/-- what the dict of an exception holds -/
def Xd (K : PySem.W.Frag) (H : Hp) (Z : FzT) (fs : List (Str × V)) (xs : XD) : Prop := ∀ p ∈ xs, ∃ v, fs.lookup p.1 = some v ∧ Sh K H Z v p.2
/-- a statement that raises -/
def rS (K : PySem.W.Frag) (C : Addr) (Γ Γx : List T) (Wx : WX) (f : RF) : TS := fun _ σ H => ∃ δ Z F xs δ', Ok K Γ σ δ H Z F ∧ f δ = some (xs, δ') ∧
  ∀ σ' d H' Z' F' fs, Stp H Z F H' Z' F' → Ok K Γx σ' δ' H' Z' F' → H' d = some (.xd fs) → Z' d → Xd K H' Z' fs xs → Wx (.ref C) (some d) σ' H'
structure RS where
  ps : List T
  f : List D → Option XD
/-- a def that raises -/
def spR (K : PySem.W.Frag) (C : Addr) (S : RS) : Sp := fun vs H _ E => ∃ ds Z F xs, Ok K S.ps (vs.map some) ds H Z F ∧ S.f ds = some xs ∧
  ∀ d H' Z' F' fs, Stp H Z F H' Z' F' → H' d = some (.xd fs) → Z' d → Xd K H' Z' fs xs → E (.ref C) (some d) H'
/-- an own __init__ that keeps its two arguments -/
def spI (C : Addr) (f1 f2 : Str) : Sp := fun vs H Q _ => ∃ a v w, vs = [.ref a, v, w] ∧ H a = some (exo a C none) ∧
  ∀ d, H d = none → d ≠ a → Q .non (upd (upd (upd H d (exd d [(f1, v)])) a (exo a C (some d))) d (exd d ((f2, w) :: [(f1, v)])))
/-! ### the shapes -/
def rfR (f1 f2 : Str) (fa : LF) : RF := fun δ => (fa δ).bind fun ds => match ds with | [d1, d2] => some ([(f1, d1), (f2, d2)], δ) | _ => none
def rfC (f : List D → Option XD) (fa : LF) : RF := fun δ => (fa δ).bind fun ds => (f ds).map (·, δ)
def rfCons (g : SF) (r : RF) : RF := fun δ => (g δ).bind fun o => match o with | .nx δ' => r δ' | _ => none
def rfIf (c : BF) (r s : RF) : RF := fun δ => (c δ).bind fun k => if k then r δ else s δ
def rfNo : RF := fun _ => none
def rfOr (r s : RF) : RF := fun δ => match r δ with | some x => some x | none => s δ
def fnR (nl : Nat) (r : RF) : List D → Option XD := fun ds => (r (ds ++ List.replicate nl .none)).map (·.1)
def sTry (i : Nat) (g : SF) (r : RF) (su : SF) : SF := fun δ => match g δ with
  | some o => some o
  | none => (r δ).bind fun p => (su (p.2.set i (exD p.1))).bind fun o => match o with
    | .nx δ' => some (.nx δ')
    | .rt d δ' => some (.rt d δ')
    | _ => none
def dFld (n : Str) : D → Option D
  | .dict kv => (kv.find? fun p => match p.1 with | .str x => x == n | _ => false).map (·.2)
  | _ => none
section
variable {K : PySem.W.Frag} {X : Cx} {Γ Γ' Γ1 Γ2 Γ3 Γx : List T} {H H' H1 H2 H3 : Hp} {Z Z' Z1 Z2 Z3 : FzT} {F F' F1 F2 : List Addr} {σ σ' σ1 : L2.St} {δ δ' : List D} {en eb ec er : List T} {et : T} {W : WX} {C : Addr}
theorem _root_.L2.PSs.or {st : List Stmt} {t t' : TS} (h : PSs X st t) (h' : PSs X st t') : PSs X st (fun D σ H => t D σ H ∨ t' D σ H) := ⟨fun pins s σ H D I q => q.elim (fun q => h.run pins s σ H D I q) fun q => h'.run pins s σ H D I q⟩
/-! ### __init__ -/
theorem ok_init {P : Program} {w : World} {mg : Str → Option Value} {base : Heap} {x qual s0 p1 p2 f1 f2 : Str} {st : Stmt} {f : Addr} {fd : FuncData} (Fu : Fun K x qual st f fd) (Sc : FnScope [s0, p1, p2] [s0, p1, p2] (defScope st)) (T : OexC K C)
    (n1 : PySem.W.findIn K (.ref C) f1 = some none) (n2 : PySem.W.findIn K (.ref C) f2 = some none)
    (body : ∀ (cdv : Value) (A : Around) (outer : List PySem.Env) (s : Shared) (H : Hp) (E : XK), Room 0 (A.deeper (envOfC qual (defScope st) s.heap.objs.size f cdv)) →
      PSs (cxOf CX0 P w K mg base [s0, p1, p2] qual (defScope st) f cdv A outer s H E).nox (defBody st) (tSeq (tOst K f1 (tVar 0) (tVar 1)) (tOst K f2 (tVar 0) (tVar 2)))) :
    FnOk P w K mg base CX0 1 f fd [s0, p1, p2] (spI C f1 f2) := by
  refine Fu.ok Sc (fun vs H Q E h => ?_) (fun cdv A outer s H vs Q E hr h => ?_)
  · obtain ⟨a, v, w, rfl, _⟩ := h
    rfl
  · obtain ⟨a, v, w, rfl, ha, hq⟩ := h
    refine ⟨_, body cdv A outer s H E hr, ?_⟩
    refine ⟨v, rfl, .ref a, rfl, a, C, rfl, T, n1, .inl ⟨ha, fun dx hd hne => ?_⟩⟩
    exact ⟨w, rfl, .ref a, rfl, a, C, rfl, T, n2, .inr ⟨dx, [(f1, v)], upd_same, by rw [upd_ne hne, upd_same], by simp, hq dx hd hne⟩⟩
/-! ### raise -/
theorem rRaise {x f1 f2 s0 p1 p2 : Str} {k : Nat} {fI : Addr} {fd : FuncData} {e1 e2 : Expr} {p pos pos' : Pos} {fa : LF} (hc : X.calm = true) (tk : Takes X W) (T : OexC X.K C) (iC : PySem.W.findIn X.K (.ref C) "__init__" = some (some (.ref fI))) (tI : PySem.W.typeIn X.K (.ref fI) = some (.type "function"))
    (F1 : FnOk X.prog X.w X.K X.mg X.base CX0 k fI fd [s0, p1, p2] (spI C f1 f2)) (hr : Room (k + 1) X.A) (hb : Binds X.K fd [s0, p1, p2] []) (hg : Gl X x) (hm : X.mg x = some (.ref C)) (ha : PA X [e1, e2] (aP X.K Γ [.sh, .sh] fa)) (hne : (f1 == f2) = false := by decide)
    (hdb : (x == ("__debug__" : Str)) = false := by decide) (he : starEach (e1 :: [e2]) X.env = (false, eval e1 X.env) :: starEach [e2] X.env := by rfl) (hpl : (backTo pos (starEach [e2] X.env)).any (·.1) = false := by rfl) :
    PS X (.Raise (some (.Call (.Name x p) [e1, e2] [] pos)) none pos') (rS X.K C Γ Γ W (rfR f1 f2 fa)) :=
  (ps_raise hc tk (pmk_oex (pos := pos) (p := p) T iC tI F1 hr hb .nil pass0 hg hm ha hdb he hpl)).imp fun D σ H ⟨δ, Z, F, xs, δ', ok, e, k⟩ => by
  obtain ⟨ds, ed, e⟩ := Option.bind_eq_some_iff.mp e
  refine ⟨δ, Z, F, ds, ok, ed, fun vs H1 Z1 g s1 r1 => ?_⟩
  split at e
  · rename_i d1 d2
    cases e
    obtain ⟨v, w, rfl, sv, sw⟩ := vs2 r1
    refine ⟨by simp, fun a ha => ⟨a, v, w, rfl, upd_same, fun d hd hna => ⟨rfl, d, [(f2, w), (f1, v)], by rw [upd_ne (fun z => hna z.symm), upd_same], upd_same, by rw [upd_ne hna] at hd; exact hd, ?_⟩⟩⟩
    rw [upd_ne hna] at hd
    have eh : upd (L2.del (upd (upd (upd (upd H1 a (exo a C none)) d (exd d [(f1, v)])) a (exo a C (some d))) d (exd d [(f2, w), (f1, v)])) a) d (.xd [(f2, w), (f1, v)]) = upd H1 d (.xd [(f2, w), (f1, v)]) := by
      funext b
      by_cases hb : b = d
      · subst hb; rw [upd_same, upd_same]
      · rw [upd_ne hb, upd_ne hb]
        by_cases hba : b = a
        · subst hba; rw [L2.del_same]; exact ha.symm
        · rw [L2.del_ne hba, upd_ne hb, upd_ne hba, upd_ne hb, upd_ne hba]
    rw [eh]
    have s2 : Ext H1 Z1 (upd H1 d (.xd [(f2, w), (f1, v)])) (fun x => Z1 x ∨ x = d) := Ext.newZ hd
    have s3 := s1.trans s2
    refine k σ d _ _ F [(f2, w), (f1, v)] s3.stp (ok.ext s3) upd_same (.inr rfl) fun p hp => ?_
    simp only [List.mem_cons, List.not_mem_nil, or_false] at hp
    rcases hp with rfl | rfl
    · exact ⟨v, by simp [List.lookup, hne], sv.ext s2⟩
    · exact ⟨w, by simp [List.lookup], sw.ext s2⟩
  · cases e
/-! ### blocks -/
theorem rCons {st : Stmt} {rest : List Stmt} {g : SF} {r : RF} (h1 : PS X st (tS X.K Γ ⟨Γ1, [], [], [], .no⟩ g)) (h2 : PSs X rest (rS X.K C Γ1 Γx W r)) : PSs X (st :: rest) (rS X.K C Γ Γx W (rfCons g r)) := (pss_cons h1 h2).imp fun D σ H ⟨δ, Z, F, xs, δ', ok, e, k⟩ => by
  obtain ⟨o, e1, e2⟩ := Option.bind_eq_some_iff.mp e
  cases o with
  | nx δ1 =>
    refine ⟨δ, Z, F, .nx δ1, ok, e1, fun σ' H' Z' F' s o fx => ⟨δ1, Z', F', xs, δ', o, e2, fun σ2 d H2 Z2 F2 fs s2 o2 => k σ2 d H2 Z2 F2 fs (s.trans s2) o2⟩⟩
  | _ => cases e2
theorem rOne {st : Stmt} {rest : List Stmt} {r : RF} (h1 : PS X st (rS X.K C Γ Γx W r)) : PSs X (st :: rest) (rS X.K C Γ Γx W r) := (pss_cons h1 (pss_never (X := X) (sts := rest))).imp fun D σ H h => h
theorem rOneW {st : Stmt} {rest : List Stmt} {r : RF} (h1 : PS X st (rS X.K C Γ Γ1 W r)) (hw : wk Γ1 Γx = true) : PSs X (st :: rest) (rS X.K C Γ Γx W r) := (rOne (rest := rest) h1).imp fun D σ H ⟨δ, Z, F, xs, δ', ok, e, k⟩ =>
  ⟨δ, Z, F, xs, δ', ok, e, fun σ' d H' Z' F' fs s o => by
    obtain ⟨F2, o2, sb⟩ := o.weak hw
    exact k σ' d H' Z' F2 fs (s.sub fun a h => sb.subset h) o2⟩
theorem rOr {sts : List Stmt} {r s : RF} (h1 : PSs X sts (rS X.K C Γ Γx W r)) (h2 : PSs X sts (rS X.K C Γ Γx W s)) : PSs X sts (rS X.K C Γ Γx W (rfOr r s)) := (h1.or h2).imp fun D σ H ⟨δ, Z, F, xs, δ', ok, e, k⟩ => by
  unfold rfOr at e
  split at e
  · rename_i x ex
    cases e
    exact .inl ⟨δ, Z, F, xs, δ', ok, ex, k⟩
  · exact .inr ⟨δ, Z, F, xs, δ', ok, e, k⟩
theorem rIf {c : Expr} {a b : List Stmt} {pos : Pos} {cf : BF} {r s : RF} (hc : PT X c (bP X.K Γ cf)) (ha : PSs X a (rS X.K C Γ Γx W r)) (hb : PSs X b (rS X.K C Γ Γx W s)) : PS X (.If c a b pos) (rS X.K C Γ Γx W (rfIf cf r s)) := (ps_if hc ha hb).imp fun D σ H ⟨δ, Z, F, xs, δ', ok, e, k⟩ => by
  obtain ⟨q, e1, e2⟩ := Option.bind_eq_some_iff.mp e
  refine ⟨δ, Z, F, q, ok, e1, fun H1 Z1 s1 => ?_⟩
  cases q with
  | true => exact ⟨δ, Z1, F, xs, δ', ok.ext s1, e2, fun σ2 d H2 Z2 F2 fs s2 o2 => k σ2 d H2 Z2 F2 fs (s1.stp.trans s2) o2⟩
  | false => exact ⟨δ, Z1, F, xs, δ', ok.ext s1, e2, fun σ2 d H2 Z2 F2 fs s2 o2 => k σ2 d H2 Z2 F2 fs (s1.stp.trans s2) o2⟩
theorem rNever {sts : List Stmt} : PSs X sts (rS X.K C Γ Γx W rfNo) := pss_never.imp fun D σ H ⟨δ, Z, F, xs, δ', ok, e, k⟩ => nomatch e
/-! ### calls that raise -/
theorem rc_of {S : RS} {fa : LF} {Q : VK} (h1 : S.ps.all (· == .sh) = true) {ok : Ok K Γ σ δ H Z F} {ds : List D} {xs : XD} (e : S.f ds = some xs) {vs : List V} {g : List Addr} (s1 : Ext H Z H1 Z1) (r1 : Env K H1 Z1 S.ps (vs.map some) ds g)
    (k : ∀ σ' d H' Z' F' fs, Stp H Z F H' Z' F' → Ok K Γ σ' δ H' Z' F' → H' d = some (.xd fs) → Z' d → Xd K H' Z' fs xs → W (.ref C) (some d) σ' H') : spR K C S vs H1 Q (WE W σ) := by
  have eg := r1.shs h1
  subst eg
  refine ⟨ds, Z1, [], xs, ⟨r1, .nil, (fun _ q => nomatch q), (ok.ext s1).zs⟩, e, fun d H' Z' F' fs s hd hz hx => ?_⟩
  have s2 : Ext H Z H' Z' := s1.trans (s.sub fun _ q => nomatch q)
  exact k σ d H' Z' F fs s2.stp (ok.ext s2) hd hz hx
section
variable {k : Nat} {f : Addr} {fd : FuncData} {ps : List Str} {S : RS} {x : Str} {p pos : Pos} {e : Expr} {es : List Expr} {fa : LF}
theorem pe_callR (Fn : FnOk X.prog X.w X.K X.mg X.base (L2.CX X.prog X.w) k f fd ps (spR X.K C S)) (hr : Room k X.A) (hg : Gl X x) (hm : X.mg x = some (.ref f)) (hk : PySem.W.keepIn X.K (.ref f) = true) (hb : Binds X.K fd ps []) (tk : Takes X W)
    (ha : PA X (e :: es) (aP X.K Γ S.ps fa)) (hdb : (x == ("__debug__" : Str)) = false := by decide) (he : starEach (e :: es) X.env = (false, eval e X.env) :: starEach es X.env := by rfl) (hpl : (backTo pos (starEach es X.env)).any (·.1) = false := by rfl) :
    PE X (.Call (.Name x p) (e :: es) [] pos) (tCallS (spR X.K C S) (WE W) (aP X.K Γ S.ps fa)) := pe_callS Fn hr hg hm hk hb (fun σ => passAt tk σ) ha hdb he hpl
theorem rc_ts {t : TE} {Q : VK} (h1 : S.ps.all (· == .sh) = true) (h : ∃ δ Z F xs δ', Ok K Γ σ δ H Z F ∧ rfC S.f fa δ = some (xs, δ') ∧
    ∀ σ' d H' Z' F' fs, Stp H Z F H' Z' F' → Ok K Γ σ' δ' H' Z' F' → H' d = some (.xd fs) → Z' d → Xd K H' Z' fs xs → W (.ref C) (some d) σ' H') : tCallS (spR K C S) (WE W) (aP K Γ S.ps fa) σ H Q := by
  obtain ⟨δ, Z, F, xs, δ', ok, e, k⟩ := h
  obtain ⟨ds, e1, e2⟩ := Option.bind_eq_some_iff.mp e
  obtain ⟨xs', e3, e4⟩ := Option.map_eq_some_iff.mp e2
  cases e4
  exact ⟨δ, Z, F, ds, ok, e1, fun vs H1 Z1 g s1 r1 => rc_of (ok := ok) (fa := fa) h1 e3 s1 r1 k⟩
/-- f(..) -/
theorem rExpr {c : Expr} {pos' : Pos} (h1 : S.ps.all (· == .sh) = true) (hc : PE X c (tCallS (spR X.K C S) (WE W) (aP X.K Γ S.ps fa))) (hs : swapsWith c none pos'.line X.env = pure false := by rfl) : PS X (.Expr c pos') (rS X.K C Γ Γ W (rfC S.f fa)) :=
  (ps_expr hc hs).imp fun D σ H h => rc_ts (t := fun _ _ _ => False) h1 h
/-- y = f(..) -/
theorem rSet {i : Nat} {y : Str} {c : Expr} {pos1 pos2 : Pos} (hN : X.N.Nodup) (hi : X.N[i]? = some y) (hx : Loc X.env.scope y) (h1 : S.ps.all (· == .sh) = true) (hc : PE X c (tCallS (spR X.K C S) (WE W) (aP X.K Γ S.ps fa)))
    (hs : swapsWith c (some (.Name y pos2)) pos1.line X.env = pure false := by rfl) (hf : X.fn y = true ∨ X.env.scope.names.lookup y = some .local := by first | exact .inl rfl | exact .inr rfl | assumption) :
    PS X (.Assign [.Name y pos2] c pos1) (rS X.K C Γ Γ W (rfC S.f fa)) := (ps_set hN hi hx hc hs hf).imp fun D σ H h => rc_ts (t := fun _ _ _ => False) h1 h
/-- return f(..) -/
theorem rRet {c : Expr} {pos' : Pos} (h1 : S.ps.all (· == .sh) = true) (hc : PE X c (tCallS (spR X.K C S) (WE W) (aP X.K Γ S.ps fa))) : PS X (.Return (some c) pos') (rS X.K C Γ Γ W (rfC S.f fa)) := (ps_ret hc).imp fun D σ H h => rc_ts (t := fun _ _ _ => False) h1 h
end
/-- THE RULE for a def that raises -/
theorem fn_raise {P : Program} {w : World} {mg : Str → Option Value} {base : Heap} {x qual : Str} {st : Stmt} {f : Addr} {fd : FuncData} {N ps : List Str} {k nl : Nat} {S : RS} {g : RF}
    (Fu : Fun K x qual st f fd) (Sc : FnScope N ps (defScope st)) (hp : S.ps.length = ps.length) (hN : N.length = ps.length + nl) (hf : S.f = fnR nl g)
    (body : ∀ (cdv : Value) (A : Around) (outer : List PySem.Env) (s : Shared) (H : Hp) (E : XK), Room k (A.deeper (envOfC qual (defScope st) s.heap.objs.size f cdv)) → Takes (cxOf (L2.CX P w) P w K mg base N qual (defScope st) f cdv A outer s H E) (fun cls d _ H => E cls d H) →
      PSs (cxOf (L2.CX P w) P w K mg base N qual (defScope st) f cdv A outer s H E) (defBody st) (rS K C (S.ps ++ List.replicate nl .no) Γx (fun cls d _ H => E cls d H) g)) :
    FnOk P w K mg base (L2.CX P w) (k + 1) f fd ps (spR K C S) := by
  refine Fu.okX Sc (fun vs H Q E h => ?_) (fun cdv A outer s H vs Q E hr h => ?_)
  · obtain ⟨ds, Z, F, xs, ok, _⟩ := h
    have := ok.env.len.1
    rw [List.length_map] at this
    omega
  · obtain ⟨ds, Z, F, xs, ok, e, k⟩ := h
    have lv : vs.length = ps.length := by
      have := ok.env.len.1
      rw [List.length_map] at this
      omega
    rw [hf] at e
    obtain ⟨⟨xs', δ'⟩, e1, e2⟩ := Option.map_eq_some_iff.mp e
    cases e2
    refine ⟨_, body cdv A outer s H E hr (takes_of rfl rfl rfl rfl), ds ++ List.replicate nl .none, Z, F, xs', δ', ⟨?_, ok.nd, ok.dz, ok.zs⟩, e1, fun σ' d H' Z' F' fs s o hd hz hx => k d H' Z' F' fs s hd hz hx⟩
    have hs : L2.start N vs = vs.map some ++ List.replicate nl none := by
      unfold L2.start
      rw [show N.length - vs.length = nl by omega]
    rw [hs]
    exact ok.env.pad nl
/-! ### try .. except X as e -/
theorem Ok.gone {i : Nat} (o : Ok K Γ σ δ H Z F) (hi : Γ[i]? = some .no) : Ok K Γ (σ.set i none) δ H Z F := o.agree (by simp) fun j t h n => by
  by_cases e : i = j
  · subst e
    rw [hi] at h
    cases h
    exact absurd rfl n
  · rw [List.getElem?_set_ne e]
theorem fix_no (h : er.all (· == .no) = true) : Fix er σ σ' := fun i t hi n => by
  have := List.all_eq_true.mp h t (List.mem_of_getElem? hi)
  exact absurd (by simpa using this) n
/-- within the suite of a caught exception -/
def CaughtC (Y : Cx) (C a dd : Addr) : Prop := ∃ (X : Cx) (oe : Obj) (pn : List (Addr × Obj)), Y = X.suite a ((a, oe) :: pn) ∧ Zc (.ref C) (some dd) oe ∧ ∃ vs, oe.data = .fields vs
theorem zTryAs {i : Nat} {x n : Str} {body suite : List Stmt} {b₀ : Stmt} {np pos pos' : Pos} {g su : SF} {r : RF} (hs : X.stack = X.env :: X.outer) (hf : X.env.frame = some X.env.locals) (hN : X.N.Nodup) (hi : X.N[i]? = some n) (hln : X.env.kindOf n = some .local) (hc : Names X x (.ref C))
    (he : PySem.W.exmOne X.K (.ref C) (.ref C) = some true) (hl : i < Γ.length) (hno : Γ1[i]? = some .no) (hr : er.all (· == .no) = true)
    (hb : ∀ (pn : List (Addr × Obj)) (xe : Value → Shared → Prop), PassesOwn (model X.prog X.w) X.A X.env xe → PSs (X.tr pn xe) body (tS X.K Γ ⟨Γ1, eb, ec, er, et⟩ g))
    (hb2 : ∀ (W : WX) (pn : List (Addr × Obj)) (xe : Value → Shared → Prop), Takes (X.tr pn xe) W → PassesOwn (model X.prog X.w) X.A X.env xe → PSs (X.tr pn xe) body (rS X.K C Γ Γ W r))
    (hsu : ∀ (a dd : Addr) (oe : Obj) (pn : List (Addr × Obj)), CaughtC (X.suite a ((a, oe) :: pn)) C a dd → PSs (X.suite a ((a, oe) :: pn)) (b₀ :: suite) (tS X.K (Γ.set i (.ex a dd)) ⟨Γ1, eb, ec, er, et⟩ su)) :
    PS X (.Try body [.ExceptHandler (some (.Name x np)) (some n) (b₀ :: suite) pos'] [] [] pos) (tS X.K Γ ⟨Γ1, eb, ec, er, et⟩ (sTry i g r su)) :=
  (ps_try_as (tb := fun W D σ H => tS X.K Γ ⟨Γ1, eb, ec, er, et⟩ g D σ H ∨ rS X.K C Γ Γ W r D σ H) (ts := fun a cls d D σ H => ∃ dd, cls = .ref C ∧ d = some dd ∧ tS X.K (Γ.set i (.ex a dd)) ⟨Γ1, eb, ec, er, et⟩ su D σ H) (Wout := fun _ _ _ _ => False) hs hf hN hi hln hc takes0
    (fun W pn xe tk hp => (hb pn xe hp).or (hb2 W pn xe tk hp)) (fun a oe cls d pn hz hv => ⟨fun pins s σ H D I ⟨dd, e1, e2, h⟩ => by subst e1; subst e2; exact (hsu a dd oe pn ⟨X, oe, pn, rfl, hz, hv⟩).run pins s σ H D I h⟩)).imp fun D σ H ⟨δ, Z, F, out, ok, e, p⟩ => by
  unfold sTry at e
  split at e
  · rename_i o eg
    cases e
    exact .inl ⟨δ, Z, F, _, ok, eg, p⟩
  · obtain ⟨⟨xs, δ'⟩, e1, e2⟩ := Option.bind_eq_some_iff.mp e
    obtain ⟨o, e3, e4⟩ := Option.bind_eq_some_iff.mp e2
    refine .inr ⟨δ, Z, F, xs, δ', ok, e1, fun σ' d H' Z' F' fs s o' hd hz hx => ⟨true, he, fun _ a ha => ?_, fun z => nomatch z⟩⟩
    obtain ⟨F2, o2, sb⟩ := o'.set (i := i) (t := .ex a d) (v := .ref a) (d := exD xs) (g := []) hl (.ex hz hd hx) (by simpa using o'.nd) (fun _ q => nomatch q)
    refine ⟨d, rfl, rfl, δ'.set i (exD xs), Z', F2, o, o2, e3, ?_⟩
    have s2 : Stp H Z F H' Z' F2 := s.sub fun a h => by simpa using sb a h
    cases o with
    | nx δ1 => cases e4; exact fun σ3 H3 Z3 F3 s3 o3 fx => p (σ3.set i none) H3 Z3 F3 (s2.trans s3) (o3.gone hno) (fix_no hr)
    | rt d1 δ1 => cases e4; exact fun v σ3 H3 Z3 F3 g3 s3 o3 fx r3 nd dz => p v σ3 H3 Z3 F3 g3 (s2.trans s3) o3 (fix_no hr) r3 nd dz
    | _ => cases e4
/-- e.f, in the suite -/
theorem cXf {Y : Cx} {a dd : Addr} {i : Nat} {n nm : Str} {p0 pos : Pos} (T : XfC Y.K C) (hno : PySem.W.findIn Y.K (.ref C) n = some none) (hz : CaughtC Y C a dd)
    (hv : PE Y (.Name nm p0) (tVar i)) (ht : Γ[i]? = some (.ex a dd)) (hb : attributeBase (.Name nm p0) n Y.env (eval (.Name nm p0) Y.env) = eval (.Name nm p0) Y.env := by rfl) :
    PE Y (.Attribute (.Name nm p0) n pos) (tP Y.K Γ .sh (x1 (dFld n) (xV i))) := by
  obtain ⟨X, oe, pn, rfl, hz, hf⟩ := hz
  refine (pe_xf T hno hz hf hv hb).imp fun σ H Q ⟨δ, Z, F, d, ok, e, k⟩ => ?_
  obtain ⟨y, e1, e2⟩ := Option.bind_eq_some_iff.mp e
  obtain ⟨v, g, h1, h2, _⟩ := ok.env.get ht (fun z => nomatch z) e1
  cases h2 with
  | @ex _ _ fs xs z h kx =>
    refine ⟨.ref a, h1, rfl, rfl, dd, fs, ?_⟩
    replace e2 : ((xs.map fun p => ((PyData.str p.1, p.2) : D × D)).find? fun p => match p.1 with | .str x => x == n | _ => false).map (·.2) = some d := e2
    obtain ⟨q, q1, q2⟩ := Option.map_eq_some_iff.mp e2
    have q3 := List.find?_some q1
    obtain ⟨p, hp, rfl⟩ := List.mem_map.mp (List.mem_of_find?_eq_some q1)
    have en : p.1 = n := by simpa using q3
    obtain ⟨u, hu, su⟩ := kx p hp
    rw [en] at hu
    cases q2
    exact ⟨u, rfl, h, hu, k u H Z [] .refl (.sh su)⟩
end
end Pv

set_option Elab.async false
set_option linter.all false
set_option maxRecDepth 100000
/-! Pv21: t + u, t[a:b], x += e, dicts by a comprehension, min, len of a dict, is None, xs.index. -/
namespace Pv
open PySem PySem.Spec PyProof.Rows L2
/-! ### the shapes -/
def dPlus : D → D → Option D
  | .tuple a, .tuple b => if a.length + b.length ≤ sizeLine then some (.tuple (a ++ b)) else none
  | x, y => dAdd x y
def dAddI : D → D → Option D
  | .int i, .int j => some (.int (i + j))
  | _, _ => none
def cutD (ds : List D) (lo hi : Option Int) : List D := (ds.drop (HT.sIx ds.length 0 lo)).take (HT.sIx ds.length ds.length hi - HT.sIx ds.length 0 lo)
abbrev OF := List D → Option (Option Int)
def oNo : OF := fun _ => some none
def oInt1 (f : EF) : OF := fun δ => (f δ).bind fun d => match d with | .int i => some (some i) | _ => none
def xSlT (f : EF) (lo hi : OF) : EF := fun δ => (f δ).bind fun d => match d with
  | .tuple ds => (lo δ).bind fun l => (hi δ).bind fun h => some (.tuple (cutD ds l h))
  | _ => none
def dcL (tg : D → List D → Option (List D)) (kf vf : EF) (δ : List D) : List D → List (D × D) → Option (List (D × D))
  | [], acc => some acc
  | d :: ds, acc => (tg d δ).bind fun δ1 => (kf δ1).bind fun k => (vf δ1).bind fun v => if (ikey k).isSome && decide (acc.length < sizeLine) then dcL tg kf vf δ ds (putD acc k v) else none
def xDc (src : LF) (tg : D → List D → Option (List D)) (kf vf : EF) : EF := fun δ => (src δ).bind fun ds => (dcL tg kf vf δ ds []).map .dict
def minI : List Int → Option Int
  | [] => none
  | [n] => some n
  | n :: ns => (minI ns).map fun m => if n ≤ m then n else m
def oMin : List D → Option D
  | [.list ds] => (intsD ds).bind fun ns => (minI ns).map .int
  | _ => none
def oMin2 : List D → Option D
  | [.int i, .int j] => some (.int (if j < i then j else i))
  | _ => none
def oLenD : List D → Option D
  | [d] => (dictOf d).bind fun p => if p.1 then none else some (.int p.2.length)
  | _ => none
def isNoneD : D → Bool
  | .none => true
  | _ => false
def dIsN : D → D → Option D
  | x, .none => some (.bool (isNoneD x))
  | _, _ => none
def dNotN : D → D → Option D
  | x, .none => some (.bool (!isNoneD x))
  | _, _ => none
def dIndex : D → D → Option D
  | .list ds, y => if flatD y && ds.all flatD then (ds.findIdx? fun z => PyData.eqv z y).map fun (n : Nat) => .int n else none
  | _, _ => none
def xMth (o : D → D → Option D) (f g : EF) : EF := x2 o f g
section
variable {K : PySem.W.Frag} {X : Cx} {Γ Γ' Γ1 Γ2 Γ3 : List T} {H H' H1 H2 H3 : Hp} {Z Z' Z1 Z2 Z3 : FzT} {F F' F1 F2 : List Addr} {σ σ' σ1 : L2.St} {δ δ' : List D} {en eb ec er : List T} {et : T}
/-! ### t + u -/
theorem op_plus : OpR X (binaryOp .Add) (fun x y H Q => rCatA X.K x y H Q ∨ rAdd' x y H Q) := op_catA.or op_add'
theorem plus_s : OpS K (fun x y H Q => rCatA K x y H Q ∨ rAdd' x y H Q) .sh .sh .sh dPlus := by
  intro H Z x y dx dy d f g Q rx ry e k
  unfold dPlus at e
  split at e
  · rename_i as bs
    split at e
    · rename_i hz
      cases e
      obtain ⟨qx, _⟩ := rx.shOf
      obtain ⟨qy, _⟩ := ry.shOf
      cases qx with
      | @tup a xs _ hx ra =>
        cases qy with
        | @tup b ys _ hy rb =>
          refine .inl ⟨a, b, xs, ys, rfl, rfl, SqT.of hx, SqT.of hy, by rw [ra.len, rb.len]; exact hz, fun e => ?_, fun _ e => ?_, fun _ _ p hp => ?_⟩
          · have : as = [] := List.length_eq_zero_iff.mp (by rw [← ra.len, e]; rfl)
            subst this
            exact k _ H Z [] .refl (.sh (.tup hy rb))
          · have : bs = [] := List.length_eq_zero_iff.mp (by rw [← rb.len, e]; rfl)
            subst this
            rw [List.append_nil] at k
            exact k _ H Z [] .refl (.sh (.tup hx ra))
          · exact k _ _ Z [] (Ext.new hp) (.sh (.tup upd_same ((ra.app rb).ext (Ext.new hp))))
    · cases e
  · exact .inr (add_s H Z x y dx dy d f g Q rx ry e k)
/-! ### slices of tuples -/
def oP (K : PySem.W.Frag) (Γ : List T) (f : OF) : TO := fun σ H Q => ∃ δ Z F o, Ok K Γ σ δ H Z F ∧ f δ = some o ∧ ∀ H' Z', Ext H Z H' Z' → Q o H'
theorem _root_.L2.PO.imp {e : Option Expr} {t t' : TO} (h : PO X e t) (i : ∀ σ H Q, t' σ H Q → t σ H Q) : PO X e t' := ⟨fun pins s σ H Q I q => h.run pins s σ H Q I (i _ _ _ q)⟩
theorem oNone : PO X none (oP X.K Γ oNo) := po_none.imp fun σ H Q ⟨δ, Z, F, o, ok, e, k⟩ => by cases e; exact k H Z .refl
theorem oSome {e : Expr} {f : EF} (h : PE X e (tP X.K Γ .sh f)) : PO X (some e) (oP X.K Γ (oInt1 f)) := (po_some h).imp fun σ H Q ⟨δ, Z, F, o, ok, e, k⟩ => by
  obtain ⟨d, e1, e2⟩ := Option.bind_eq_some_iff.mp e
  refine ⟨δ, Z, F, d, ok, e1, fun v H1 Z1 g s1 r1 => ?_⟩
  split at e2
  · rename_i i
    cases e2
    exact ⟨i, r1.shOf.1.intOf, k H1 Z1 s1⟩
  · cases e2
theorem sha_cut {xs : List V} {ds : List D} (lo hi : Option Int) (r : ShA K H Z xs ds) : ShA K H Z (cutV xs lo hi) (cutD ds lo hi) := by
  have dr : ∀ {xs : List V} {ds : List D} (n : Nat), ShA K H Z xs ds → ShA K H Z (xs.drop n) (ds.drop n) := by
    intro xs ds n r
    induction n generalizing xs ds with
    | zero => exact r
    | succ n ih => cases r with | nil => exact .nil | cons h r => exact ih r
  have tk : ∀ {xs : List V} {ds : List D} (n : Nat), ShA K H Z xs ds → ShA K H Z (xs.take n) (ds.take n) := by
    intro xs ds n r
    induction n generalizing xs ds with
    | zero => exact .nil
    | succ n ih => cases r with | nil => exact .nil | cons h r => exact .cons h (ih r)
  unfold cutV cutD
  rw [r.len]
  exact tk _ (dr _ r)
theorem cSl {e : Expr} {lo hi : Option Expr} {f : EF} {fl fh : OF} {p2 pos : Pos} (he : PE X e (tP X.K Γ .sh f)) (hl : PO X lo (oP X.K Γ fl)) (hh : PO X hi (oP X.K Γ fh)) : PE X (.Subscript e (.Slice lo hi none p2) pos) (tP X.K Γ .sh (xSlT f fl fh)) :=
  (pe_slice sl_tupA he hl hh).imp fun σ H Q ⟨δ, Z, F, d, ok, e, k⟩ => by
  obtain ⟨dx, e1, e2⟩ := Option.bind_eq_some_iff.mp e
  split at e2
  · rename_i ds
    obtain ⟨l, e3, e4⟩ := Option.bind_eq_some_iff.mp e2
    obtain ⟨h, e5, e6⟩ := Option.bind_eq_some_iff.mp e4
    cases e6
    refine ⟨δ, Z, F, .tuple ds, ok, e1, fun v H1 Z1 g1 s1 r1 => ⟨δ, Z1, F, l, ok.ext s1, e3, fun H2 Z2 s2 => ⟨δ, Z2, F, h, (ok.ext s1).ext s2, e5, fun H3 Z3 s3 => ?_⟩⟩⟩
    obtain ⟨r, _⟩ := (r1.ext (s2.trans s3)).shOf
    have s13 := s1.trans (s2.trans s3)
    cases r with
    | @tup a xs _ hx ra =>
      refine ⟨a, xs, rfl, SqT.of hx, fun hw => ?_, fun hw p hp => ?_⟩
      · have ec : cutD ds l h = ds := by
          unfold cutD
          rw [← ra.len, hw.1, hw.2, Nat.sub_zero, List.drop_zero, ra.len, List.take_length]
        rw [ec] at k
        exact k _ H3 Z3 [] s13 (.sh (.tup hx ra))
      · exact k _ _ Z3 [] (s13.trans (Ext.new hp)) (.sh (.tup upd_same ((sha_cut l h ra).ext (Ext.new hp))))
  · cases e2
/-! ### x += e -/
theorem zAug {i : Nat} {x : Str} {e : Expr} {f : EF} {pos' pos : Pos} (hN : X.N.Nodup) (hi : X.N[i]? = some x) (hx : Loc X.env.scope x) (ht : Γ[i]? = some .sh) (he : PE X e (tP X.K Γ .sh f)) (hr : isNo er i = true)
    (hf : X.fn x = true ∨ X.env.scope.names.lookup x = some .local := by first | exact .inl rfl | exact .inr rfl | assumption) : PS X (.AugAssign (.Name x pos') .Add e pos) (tS X.K Γ ⟨Γ, eb, ec, er, et⟩ (sSet i (x2 dAddI (xV i) f))) :=
  (ps_aug hN hi hx he ip_add hf).imp fun W σ H ⟨δ, Z, F, out, ok, e, p⟩ => by
  obtain ⟨d, e1, e2⟩ := Option.bind_eq_some_iff.mp e
  cases e2
  obtain ⟨y, e3, e4⟩ := Option.bind_eq_some_iff.mp e1
  obtain ⟨z, e5, e6⟩ := Option.bind_eq_some_iff.mp e4
  obtain ⟨v, g, h1, h2, _⟩ := ok.env.get ht (fun q => nomatch q) e3
  refine ⟨v, h1, δ, Z, F, z, ok, e5, fun w H1 Z1 g1 s1 r1 => ?_⟩
  obtain ⟨i', j', rfl, rfl, rfl⟩ : ∃ i' j', y = .int i' ∧ z = .int j' ∧ d = .int (i' + j') := by
    cases y <;> cases z <;> first | (cases e6; exact ⟨_, _, rfl, rfl, rfl⟩) | cases e6
  refine ⟨i', j', h2.shOf.1.intOf, r1.shOf.1.intOf, ?_⟩
  obtain ⟨F2, o2, sb⟩ := (ok.ext s1).set (i := i) (t := .sh) (v := .int (i' + j')) (d := .int (i' + j')) (g := []) (List.getElem?_eq_some_iff.mp ht).1 (.sh (.int _)) (by simpa using ok.nd) (fun _ q => nomatch q)
  have eΓ : Γ.set i .sh = Γ := set_self ht
  rw [eΓ] at o2
  exact p _ H1 Z1 F2 (s1.stp.sub fun a h => by simpa using sb a h) o2 (Fix.set hr)
/-! ### dicts by a comprehension -/
theorem dcC {vs : List Nat} {src : LF} {tgf : D → List D → Option (List D)} {kf vf : EF} (hno : noIx Γ vs = true) : ∀ (σ : L2.St) (H : Hp) (Q : VK), tC K Γ (.dk .sh) (xDc src tgf kf vf) σ H Q → tDc (tIP K Γ src) (tG K Γ Γ1 vs tgf) (bP K Γ1 bYes) (tP K Γ1 .sh kf) (tP K Γ1 .sh vf) vs σ H Q := fun σ H Q ⟨δ, Z, F, d, ok, e, k⟩ => by
  obtain ⟨ds, e1, e2⟩ := Option.bind_eq_some_iff.mp e
  obtain ⟨fin, e3, e4⟩ := Option.map_eq_some_iff.mp e2
  cases e4
  refine ⟨δ, Z, F, ds, ok, e1, fun J H0 Z0 s0 wk D hD => ?_⟩
  obtain ⟨G, Y, walk, hG, hY⟩ := wk
  have ok0 := ok.ext s0
  refine ⟨fun i m Hi => m = ds.length - i ∧ i ≤ ds.length ∧ ∃ Zi acc accD, Ext H0 Z0 Hi Zi ∧ Hi D = some (.dK acc) ∧ accD.map Prod.fst = acc.map (fun p => kD p.1) ∧ ShA K Hi Zi (acc.map Prod.snd) (accD.map Prod.snd) ∧ ¬ Zi D ∧ dcL tgf kf vf δ (ds.drop i) accD = some fin,
    ⟨ds.length, by simp, Nat.zero_le _, Z0, [], [], Ext.new hD, upd_same, rfl, .nil, fun hz => ok0.zs D hz hD, e3⟩, ?_⟩
  rintro i m Hi ⟨rfl, hi, Zi, acc, accD, si, hDi, ek, sa, dz, er⟩
  have gi := hG Hi Zi ⟨[], [], si, Mu.nil, (fun _ q => nomatch q)⟩
  by_cases hlt : i < ds.length
  · refine .inr ⟨walk.goes i Hi hlt gi, fun Hn => ∃ Zi acc accD, Ext H0 Z0 Hn Zi ∧ Hn D = some (.dK acc) ∧ accD.map Prod.fst = acc.map (fun p => kD p.1) ∧ ShA K Hn Zi (acc.map Prod.snd) (accD.map Prod.snd) ∧ ¬ Zi D ∧ dcL tgf kf vf δ (ds.drop (i + 1)) accD = some fin,
      fun H' p' => ⟨ds.length - (i + 1), by omega, rfl, hlt, p'⟩, fun x H3 y => ?_⟩
    obtain ⟨d, hd⟩ : ∃ d, ds[i]? = some d := ⟨ds[i], by simp [hlt]⟩
    obtain ⟨Z3, s3, sx⟩ := hY i Hi Zi x H3 d ⟨[], [], si, Mu.nil, (fun _ q => nomatch q)⟩ (walk.yields i Hi x H3 hlt gi y) hd
    have hdr : ds.drop i = d :: ds.drop (i + 1) := by
      rw [List.drop_eq_getElem_cons hlt]
      have : ds[i] = d := by simpa [hlt] using hd
      rw [this]
    rw [hdr] at er
    obtain ⟨δ1, e5, e6⟩ := Option.bind_eq_some_iff.mp er
    obtain ⟨kd, e7, e8⟩ := Option.bind_eq_some_iff.mp e6
    obtain ⟨vd, e9, e10⟩ := Option.bind_eq_some_iff.mp e8
    split at e10
    · rename_i hc
      rw [Bool.and_eq_true] at hc
      obtain ⟨ky, hky⟩ := Option.isSome_iff_exists.mp hc.1
      have ekd := ikey_eq hky
      subst ekd
      have okw : Ok K Γ (wipe σ vs) δ H3 Z3 F := (ok0.ext (si.trans s3)).agree (wipe_length _ _) fun i t hi n => wipe_out (no_at hno hi n)
      refine ⟨δ, Z3, F, d, δ1, okw, sx, e5, fun σ1 F1 ok1 sb1 l1 j1 => ⟨wipe_eq (l1.trans (wipe_length _ _)) j1, δ1, Z3, F1, true, ok1, rfl, fun H4 Z4 s4 => ?_⟩⟩
      refine (if_pos rfl).mpr ?_
      refine ⟨δ1, Z4, F1, kD ky, ok1.ext s4, e7, fun v H5 Z5 g5 s5 r5 => ⟨δ1, Z5, F1, vd, (ok1.ext s4).ext s5, e9, fun w H6 Z6 g6 s6 r6 => ?_⟩⟩
      have s36 : Ext Hi Zi H6 Z6 := s3.trans (s4.trans (s5.trans s6))
      have hD6 : H6 D = some (.dK acc) := s36.keep D _ hDi (by simp)
      have nDz : ¬ Z6 D := fun hz => by
        rcases s36.frz D hz with q | q | q
        · exact dz q
        · cases q
        · rw [hDi] at q; cases q
      have su : Stp H6 Z6 [D] (upd H6 D (.dK (putK acc ky w))) Z6 [D] := Stp.upd (by simp)
      have mu : Mu H6 [D] := fun x hx => by simp only [List.mem_singleton] at hx; subst hx; exact ⟨_, hD6, rfl⟩
      have dz6 : ∀ x ∈ [D], ¬ Z6 x := fun x hx => by simp only [List.mem_singleton] at hx; rw [hx]; exact nDz
      obtain ⟨p1, p2⟩ := put_rel (k := ky) eqv_kD ek ((sa.ext s36).step su mu dz6) (r6.shOf.1.step su mu dz6)
      have hzl : acc.length < sizeLine := by
        have l1 := congrArg List.length ek
        rw [List.length_map, List.length_map] at l1
        rw [← l1]
        exact of_decide_eq_true hc.2
      exact ⟨acc, ky, r5.shOf.1.keyK, hD6, hzl, Z6, putK acc ky w, putD accD (kD ky) vd, (si.trans s36).updNew hD, upd_same, p1, p2, nDz, e10⟩
    · cases e10
  · have ei : i = ds.length := by omega
    subst ei
    rw [List.drop_length] at er
    cases er
    refine .inl ⟨walk.stops Hi gi, k (.ref D) Hi Zi [D] (s0.trans si) (.dk hDi ek sa.repA) (by simp) fun a ha => ?_⟩
    have ea : a = D := by simpa using ha
    subst ea
    exact ⟨Same.free s0.same hD, dz⟩
theorem cDc {kx vx tg iter : Expr} {scope : Scope} {own : List (Str × Nat)} {pos : Pos} {src : LF} {tgf : D → List D → Option (List D)} {kf vf : EF} (hc : X.calm = true) (hN : X.N.Nodup) (hi : PI X tg iter (tIP X.K Γ src)) (ok : BlkOk X.N X.env.scope scope own)
    (hg : ∀ (s : Shared) (H : Hp) (C : Addr) (cl : List (Str × Addr)) (fp : List Addr), PG (X.blk s H scope (compEnvC scope cl C X.env) fp) tg (tG X.K Γ Γ1 (own.map (·.2)) tgf)) (ht : ∀ (s : Shared) (H : Hp) (C : Addr) (cl : List (Str × Addr)) (fp : List Addr), PTs (X.blk s H scope (compEnvC scope cl C X.env) fp) [] (bP X.K Γ1 bYes))
    (hk : ∀ (s : Shared) (H : Hp) (C : Addr) (cl : List (Str × Addr)) (fp : List Addr), PE (X.blk s H scope (compEnvC scope cl C X.env) fp) kx (tP X.K Γ1 .sh kf)) (he : ∀ (s : Shared) (H : Hp) (C : Addr) (cl : List (Str × Addr)) (fp : List Addr), PE (X.blk s H scope (compEnvC scope cl C X.env) fp) vx (tP X.K Γ1 .sh vf))
    (hno : noIx Γ (own.map (·.2)) = true) (hs : ∀ x, foldedSetIterable iter X.env x = pure x := by intro _; rfl) :
    PE X (.DictComp kx vx [⟨tg, iter, [], 0⟩] scope pos) (tC X.K Γ (.dk .sh) (xDc src tgf kf vf)) := (pe_dc hc hN hi ok hg ht hk he hs).imp (dcC hno)
/-- name = {..} on one line, the name a local -/
theorem ps_setDc {i : Nat} {y : Str} {py : Pos} {kx vx tg iter : Expr} {ifs : List Expr} {scope : Scope} {own : List (Str × Nat)} {pos spos : Pos} {wi : TI} {g : TG} {tt : TT} {tk tv : TE} (hc : X.calm = true) (hN : X.N.Nodup) (hy : X.N[i]? = some y) (hyl : X.env.scope.names.lookup y = some .local)
    (hsw : swapsWith (.DictComp kx vx [⟨tg, iter, ifs, 0⟩] scope pos) (some (.Name y py)) spos.line X.env = pure true) (hi : PI X tg iter wi) (ok : BlkOk X.N X.env.scope scope own)
    (hg : ∀ (s : Shared) (H : Hp) (C : Addr) (cl : List (Str × Addr)) (fp : List Addr), PG (X.blk s H scope (compEnvC scope cl C X.env) fp) tg g) (ht : ∀ (s : Shared) (H : Hp) (C : Addr) (cl : List (Str × Addr)) (fp : List Addr), PTs (X.blk s H scope (compEnvC scope cl C X.env) fp) ifs tt)
    (hk : ∀ (s : Shared) (H : Hp) (C : Addr) (cl : List (Str × Addr)) (fp : List Addr), PE (X.blk s H scope (compEnvC scope cl C X.env) fp) kx tk)
    (he : ∀ (s : Shared) (H : Hp) (C : Addr) (cl : List (Str × Addr)) (fp : List Addr), PE (X.blk s H scope (compEnvC scope cl C X.env) fp) vx tv) (hs : ∀ x, foldedSetIterable iter X.env x = pure x := by intro _; rfl) :
    PS X (.Assign [.Name y py] (.DictComp kx vx [⟨tg, iter, ifs, 0⟩] scope pos) spos) (tAsg (tDc wi g tt tk tv (own.map (·.2))) (gName i)) := by
  refine ⟨fun pins s σ H D I h => ?_⟩
  rw [exec_Assign_Name_used _ _ _ _ hsw]
  refine wpAny_bind (wpAny_standAt (wpAny_bind ?_))
  show wpAny _ X.A (do let _ ← comprehension (.DictComp kx vx [⟨tg, iter, ifs, 0⟩] scope pos) scope X.env (firstIterPos [⟨tg, iter, ifs, 0⟩] pos) newDict false (eval iter X.env) (some (assign (.Name y py) X.env))) _ _ s
  have h : tDc wi g tt tk tv (own.map (·.2)) σ H (fun x H1 => gName i x σ H1 D.nx) := h
  refine wpAny_bind (thn (dc_core (Qf := fun _ s' => SP X pins D .next s') hc hN I hi ok hg ht hk he hs h fun L C s' m H' I' q hn f => ?_) fun _ s' hq => wpAny_pure (wpAny_pure hq))
  show wpAny _ _ (assign (.Name y py) X.env (.ref L)) _ _ _
  refine wpAny_assign_Name (store_ok2 (v := V.ref L) I' hN hy (.inl hyl) rfl (fun s2 I2 ⟨a, sb, ha⟩ => ?_) (.inr hyl))
  obtain ⟨f0, f1, f2, f3, f4, f5⟩ := f
  have haC : C ≠ a := by
    rcases ha with z | z
    · rw [z]; exact f1
    · exact fun e => f4 y a z e.symm
  refine ⟨m, hn.sameBut sb haC, fun h3 sb3 => ?_⟩
  exact ⟨_, H', I2.turned (t' := s2.toks) (fun b o hb e => (sb3.2 b hb).trans e) f0 f1 f3 f4 f5, q⟩
theorem zSetDc {i : Nat} {y : Str} {py : Pos} {kx vx tg iter : Expr} {scope : Scope} {own : List (Str × Nat)} {pos spos : Pos} {src : LF} {tgf : D → List D → Option (List D)} {kf vf : EF} (hc : X.calm = true) (hN : X.N.Nodup) (hy : X.N[i]? = some y) (hyl : X.env.scope.names.lookup y = some .local)
    (hsw : swapsWith (.DictComp kx vx [⟨tg, iter, [], 0⟩] scope pos) (some (.Name y py)) spos.line X.env = pure true) (hi : PI X tg iter (tIP X.K Γ src)) (ok : BlkOk X.N X.env.scope scope own)
    (hg : ∀ (s : Shared) (H : Hp) (C : Addr) (cl : List (Str × Addr)) (fp : List Addr), PG (X.blk s H scope (compEnvC scope cl C X.env) fp) tg (tG X.K Γ Γ1 (own.map (·.2)) tgf)) (ht : ∀ (s : Shared) (H : Hp) (C : Addr) (cl : List (Str × Addr)) (fp : List Addr), PTs (X.blk s H scope (compEnvC scope cl C X.env) fp) [] (bP X.K Γ1 bYes))
    (hk : ∀ (s : Shared) (H : Hp) (C : Addr) (cl : List (Str × Addr)) (fp : List Addr), PE (X.blk s H scope (compEnvC scope cl C X.env) fp) kx (tP X.K Γ1 .sh kf)) (he : ∀ (s : Shared) (H : Hp) (C : Addr) (cl : List (Str × Addr)) (fp : List Addr), PE (X.blk s H scope (compEnvC scope cl C X.env) fp) vx (tP X.K Γ1 .sh vf))
    (hno : noIx Γ (own.map (·.2)) = true) (hl : i < Γ.length) (hr : isNo er i = true) (hs : ∀ x, foldedSetIterable iter X.env x = pure x := by intro _; rfl) :
    PS X (.Assign [.Name y py] (.DictComp kx vx [⟨tg, iter, [], 0⟩] scope pos) spos) (tS X.K Γ ⟨Γ.set i (.dk .sh), eb, ec, er, et⟩ (sSet i (xDc src tgf kf vf))) := by
  rw [sSet_eq]
  refine (ps_setDc hc hN hy hyl hsw hi ok hg ht hk he hs).imp fun W σ H h => post_set (Γ' := Γ) (eb := eb) (ec := ec) (et := et) hl hr (fun Q q => dcC hno σ H Q ?_) h
  obtain ⟨δ, Z, F, d, δ', o, e, k⟩ := q
  unfold mOf at e
  cases q' : xDc src tgf kf vf δ with
  | none => rw [q'] at e; cases e
  | some d' =>
    rw [q'] at e; cases e
    refine ⟨δ, Z, F, d, o, q', fun v H' Z' g s r nd hz => k v H' Z' F g ?_ (o.ext s) r (nodup_app o.nd nd fun a ha hf => o.live hf (hz a ha).1) fun a ha => (hz a ha).2⟩
    exact ⟨s.stp.keep, s.mono, fun a ha => (List.mem_append.mp ha).imp id fun z => (hz a z).1, s.stp.frz, s.live, s.zs⟩
/-- the names of a block, told by one test -/
def blkB (N : List Str) (sc scope : Scope) (own : List (Str × Nat)) : Bool := decide (scope.kind = .function) && (decide (∀ y ∈ scope.names, scope.names.lookup y.1 = some y.2) && (decide (∀ p ∈ own, N[p.2]? = some p.1) &&
  (decide (∀ y ∈ scope.names, y.2 = .free → sc.names.lookup y.1 = some .cell ∨ sc.names.lookup y.1 = some .free) && decide (∀ y ∈ scope.names, y.2 = .local ∨ y.2 = .cell → y.1 ∈ own.map (·.1) ∨ y.1 ∉ N))))
theorem blk_ok {N : List Str} {sc scope : Scope} {own : List (Str × Nat)} (h : blkB N sc scope own = true) : BlkOk N sc scope own := by
  unfold blkB at h
  simp only [Bool.and_eq_true, decide_eq_true_eq] at h
  exact ⟨h.1, h.2.1, h.2.2.1, h.2.2.2.1, h.2.2.2.2⟩
/-- what "except S" takes, at an error of S itself -/
theorem exm_own {K : PySem.W.Frag} {S : Addr} (h1 : PySem.W.subIn K (.ref S) (.type "BaseException") = some true) (h2 : PySem.W.isClsIn K S = true) (h3 : PySem.W.typeIn K (.ref S) = some (.type "type")) (h4 : PySem.W.subIn K (.ref S) (.ref S) = some true) :
    PySem.W.exmOne K (.ref S) (.ref S) = some true := by
  have e1 : (PySem.W.subIn K (.ref S) (.type "BaseException") == some true) = true := by rw [h1] <;> rfl
  have e2 : ((PySem.W.clsIn K S).isSome && PySem.W.typeIn K (.ref S) == some (.type "type")) = true := by
    rw [show (PySem.W.clsIn K S).isSome = true from h2, h3] <;> rfl
  show (if (PySem.W.subIn K (.ref S) (.type "BaseException") == some true) = true then (if ((PySem.W.clsIn K S).isSome && PySem.W.typeIn K (.ref S) == some (.type "type")) = true then PySem.W.subIn K (.ref S) (.ref S) else none) else none) = some true
  rw [if_pos e1, if_pos e2]
  exact h4
/-! ### min -/
theorem minI_mem : ∀ {ns : List Int} {m : Int}, minI ns = some m → m ∈ ns ∧ ∀ y ∈ ns, m ≤ y
  | [n], m, h => by cases h; exact ⟨List.mem_cons_self, fun y hy => by have : y = n := (by simpa using hy); omega⟩
  | n :: n2 :: ns, m, h => by
    have h' : (minI (n2 :: ns)).map (fun m => if n ≤ m then n else m) = some m := h
    obtain ⟨q, q1, q2⟩ := Option.map_eq_some_iff.mp h'
    obtain ⟨h1, h2⟩ := minI_mem q1
    by_cases c : n ≤ q
    · rw [if_pos c] at q2
      subst q2
      refine ⟨List.mem_cons_self, fun y hy => ?_⟩
      rcases List.mem_cons.mp hy with e | e
      · omega
      · have := h2 y e; omega
    · rw [if_neg c] at q2
      subst q2
      refine ⟨List.mem_cons_of_mem _ h1, fun y hy => ?_⟩
      rcases List.mem_cons.mp hy with e | e
      · omega
      · exact h2 y e
theorem min_s {t : T} (ht : seqT t = true) : CalS K (rMin K) [t] .sh oMin := by
  intro H Z vs ds d g Q en e k
  unfold oMin at e
  split at e
  · rename_i es
    obtain ⟨ns, e1, e2⟩ := Option.bind_eq_some_iff.mp e
    obtain ⟨m, e3, e4⟩ := Option.map_eq_some_iff.mp e2
    cases e4
    obtain ⟨v, g', rfl, r⟩ := vs1t (fun z => by rw [z] at ht; cases ht) en
    have key : ∃ a xs, v = .ref a ∧ SqL K H a xs ∧ ShA K H Z xs es := by
      cases r with
      | no => cases ht
      | sh h => cases h with | lst z r => exact ⟨_, _, rfl, z.sql, r⟩
      | @ol u _ _ _ _ h r =>
        cases u with
        | sh => exact ⟨_, _, rfl, SqL.of h, r.shA.1⟩
        | _ => cases ht
    obtain ⟨a, xs, rfl, hq, sa⟩ := key
    obtain rfl := ints_V sa e1
    obtain ⟨m1, m2⟩ := minI_mem e3
    refine ⟨a, ns, rfl, hq, List.length_pos_of_mem m1, fun q q1 q2 => ?_⟩
    have : q = m := by have := q2 m m1; have := m2 q q1; omega
    subst this
    exact k _ H Z [] .refl (.sh (.int _))
  · cases e
theorem min2_s : CalS K (fun xs H Q => ∃ i j, xs = [V.int i, V.int j] ∧ Q (.int (if j < i then j else i)) H) [.sh, .sh] .sh oMin2 := by
  intro H Z vs ds d g Q en e k
  unfold oMin2 at e
  split at e
  · rename_i i j
    cases e
    obtain ⟨v, w, rfl, sv, sw⟩ := vs2 en
    obtain rfl := sv.intOf
    obtain rfl := sw.intOf
    exact ⟨i, j, rfl, k _ H Z [] .refl (.sh (.int _))⟩
  · cases e
/-! ### len of a dict -/
def rLenR : List V → Hp → VK → Prop := fun xs H Q => ∃ (a : Addr) (kvs : List (Key × V)), xs = [.ref a] ∧ Rd H a (.dK kvs) ∧ Q (.int kvs.length) H
theorem cr_lenR : CallR X (.builtin "len") rLenR := by
  intro pins s σ H xs us Q I r h
  obtain ⟨a, kvs, rfl, hd, q⟩ := h
  obtain ⟨u, rfl, ru⟩ := vals1 r
  obtain rfl : u = Value.ref a := ru
  exact d_len I hd fun t s' I' => ⟨.int kvs.length, H, I', ⟨t, rfl⟩, q⟩
theorem lenR_s {t : T} (ht : isDct t = true) : CalS K rLenR [t] .sh oLenD := by
  intro H Z vs ds d g Q en e k
  unfold oLenD at e
  split at e
  · rename_i dx
    obtain ⟨⟨b, kvd⟩, e3, e4⟩ := Option.bind_eq_some_iff.mp e
    obtain ⟨v, g', rfl, r⟩ := vs1t (fun z => by rw [z] at ht; cases ht) en
    cases b with
    | true => cases e4
    | false =>
      replace e4 : some (PyData.int kvd.length) = some d := e4
      cases e4
      have key : ∃ (a : Addr) (kvs : List (Key × V)), v = .ref a ∧ Rd H a (.dK kvs) ∧ kvd.map Prod.fst = kvs.map (fun p => kD p.1) := by
        unfold isDct at ht
        split at ht
        · obtain ⟨r', _⟩ := r.shOf
          cases r' with
          | @dk a od kvs kvd' z h ek r' =>
            obtain ⟨_, rfl⟩ := dictOf_dk ek e3
            exact ⟨a, kvs, rfl, .inr ⟨od, h⟩, ek⟩
          | dt z h ek r' => cases e3
          | _ => cases e3
        · cases r with
          | @dk _ a kvs kvd' f h ek r =>
            obtain ⟨_, rfl⟩ := dictOf_dk ek e3
            exact ⟨a, kvs, rfl, .inl h, ek⟩
        · cases r with
          | dt h ek r => cases e3
        · cases ht
      obtain ⟨a, kvs, rfl, hr, ek⟩ := key
      have l : kvd.length = kvs.length := by
        have := congrArg List.length ek
        rwa [List.length_map, List.length_map] at this
      refine ⟨a, kvs, rfl, hr, ?_⟩
      rw [← l]
      exact k _ H Z [] .refl (.sh (.int _))
  · cases e
/-! ### is None -/
theorem isNone_V {v : V} {d : D} (h : Sh K H Z v d) : decide (v = .non) = isNoneD d := by cases h <;> rfl
theorem isN_s : OpS K (fun x y H Q => y = .non ∧ Q (.bl (decide (x = .non))) H) .sh .sh .sh dIsN := by
  intro H Z x y dx dy d f g Q rx ry e k
  unfold dIsN at e
  split at e
  · cases e
    obtain ⟨ry, _⟩ := ry.shOf
    cases ry
    refine ⟨rfl, ?_⟩
    rw [isNone_V rx.shOf.1]
    exact k _ H Z [] .refl (.sh (.bl _))
  · cases e
theorem notN_s : OpS K (fun x y H Q => y = .non ∧ Q (.bl (!decide (x = .non))) H) .sh .sh .sh dNotN := by
  intro H Z x y dx dy d f g Q rx ry e k
  unfold dNotN at e
  split at e
  · cases e
    obtain ⟨ry, _⟩ := ry.shOf
    cases ry
    refine ⟨rfl, ?_⟩
    rw [isNone_V rx.shOf.1]
    exact k _ H Z [] .refl (.sh (.bl _))
  · cases e
/-! ### xs.index(y) -/
theorem cIndex {c : Expr} {t : T} {f g : EF} (ht : seqT t = true) (h : PE X c (tBM X.K "list" (rIndex X.K) (tP X.K Γ t f) (tCons (tP X.K Γ .sh g) tNil))) : PE X c (tP X.K Γ .sh (x2 dIndex f g)) := h.imp fun σ H Q ⟨δ, Z, F, d, ok, e, k⟩ => by
  obtain ⟨dl, e1, e2⟩ := Option.bind_eq_some_iff.mp e
  obtain ⟨dy, e3, e4⟩ := Option.bind_eq_some_iff.mp e2
  refine ⟨δ, Z, F, dl, ok, e1, fun v H1 Z1 g1 s1 r1 => ?_⟩
  unfold dIndex at e4
  split at e4
  · rename_i ds
    split at e4
    · rename_i hf
      obtain ⟨n, e5, e6⟩ := Option.map_eq_some_iff.mp e4
      cases e6
      rw [Bool.and_eq_true] at hf
      have key : ∀ {H Z}, Rep X.K H Z t v (.list ds) g1 → ∃ a xs, v = .ref a ∧ SqL X.K H a xs ∧ ShA X.K H Z xs ds := fun {H Z} r => by
        cases r with
        | no => cases ht
        | sh h0 => cases h0 with | lst z r => exact ⟨_, _, rfl, z.sql, r⟩
        | @ol u _ _ _ _ h0 r =>
          cases u with
          | sh => exact ⟨_, _, rfl, SqL.of h0, r.shA.1⟩
          | _ => cases ht
      obtain ⟨a, xs, rfl, hq, _⟩ := key r1
      refine ⟨.inl ⟨rfl, xs, hq⟩, δ, Z1, F, dy, ok.ext s1, e3, fun w H2 Z2 g2 s2 r2 => ?_⟩
      obtain ⟨a', xs', ea, hq', sa⟩ := key (r1.ext s2)
      cases ea
      obtain ⟨sw, _⟩ := r2.shOf
      obtain ⟨hn, hp, hmin⟩ := List.findIdx?_eq_some_iff_getElem.mp e5
      have hl := sa.len
      obtain ⟨z, hz, sz⟩ := sa.get (List.getElem?_eq_getElem hn)
      have fl := List.all_eq_true.mp hf.2
      refine ⟨a, xs', w, n, z, rfl, rfl, hq', flat_V sw hf.1, all_flatV sa hf.2, hz, ?_, fun m z' hm hz' => ?_, k _ H2 Z2 [] (s1.trans s2) (.sh (.int _))⟩
      · rw [eqv_flat sz sw (fl _ (List.getElem_mem hn)) hf.1]
        exact hp
      · have hm' : m < ds.length := by omega
        obtain ⟨z2, hz2, sz2⟩ := sa.get (List.getElem?_eq_getElem hm')
        rw [hz'] at hz2
        cases hz2
        rw [eqv_flat sz2 sw (fl _ (List.getElem_mem hm')) hf.1]
        have := hmin m hm
        simpa using this
    · cases e4
  · cases e4
end
end Pv

set_option Elab.async false
set_option linter.all false
set_option maxRecDepth 100000
set_option maxHeartbeats 4000000
/-! Pv22: sorted of a tuple of ints. -/
namespace SrtO
open PySem PyProof.Rows Srt
section
variable {prog : Program} {w : World} {A : Around} {E : Value → Shared → Prop} {s : Shared}
theorem collect_tup {l : Addr} {vs : List Value} {Q : List Value → Shared → Prop} (hl : s.heap.IsTuple l vs.toArray)
    (h : Q vs { s with heap := (s.heap.push (seqObj "list" #[] 0)).update s.heap.objs.size (Obj.mapSeq (· ++ vs.toArray)) }) (hsz : vs.length ≤ sizeLine) :
    wpAny (model prog w) A (collect (.ref l)) Q E s := by
  obtain ⟨o, ho, hc, n, hd⟩ := id hl
  unfold collect
  refine wpAny_bind (wpAny_runValue (codeAny_builtin entry_proto_collect' ?_))
  show wpAny _ _ (do again (.builtin "list.__iadd__" ⟨[← newList [], .ref l], []⟩)) _ _ s
  refine wpAny_bind (wpAny_newList (wpAny_pure ⟨Code.quiet_builtin _ (by decide +kernel), codeAny_builtin entry_list_iadd' ?_⟩))
  show wpAny _ _ (Builtin.List.listExtendWith (.ref s.heap.objs.size) (.ref l) (.ref s.heap.objs.size)) _ _ { s with heap := s.heap.push (seqObj "list" #[] 0) }
  unfold Builtin.List.listExtendWith
  have ho' : (s.heap.push (seqObj "list" #[] 0)).get? l = some o := Heap.get?_push_of_some _ ho
  refine wpAny_bind (wpAny_typeOf (T := "tuple") ⟨o, ho', hc⟩ ?_)
  have ht : (Value.type "tuple" == Value.type "tuple") = true := by rfl
  rw [if_pos (by rw [ht]; simp)]
  refine wpAny_bind (listItems_at ho' hd ?_)
  refine wpAny_bind (listItems_at (xs := #[]) (n := 0) (Heap.get?_push_size _ rfl) rfl ?_)
  rw [if_neg (by simp)]
  refine wpAny_bind (listUpdate_at (xs := #[]) (n := 0) (Heap.get?_push_size _ rfl) rfl ?_ (Nat.zero_le _) (by show (#[] ++ vs.toArray).size ≤ sizeLine + 1; simp only [Array.size_append, List.size_toArray, List.length_nil]; omega))
  refine wpAny_pure ?_
  show wpAny (model prog w) A (do
      let o ← load s.heap.objs.size
      match o.data with
      | .seq xs _ => pure xs.toList
      | _ => unsupported "internal:collect") Q E { s with heap := (s.heap.push (seqObj "list" #[] 0)).update s.heap.objs.size (Obj.mapSeq (· ++ vs.toArray)) }
  refine wpAny_bind (wpAny_load (get?_update_seq (Heap.get?_push_size _ rfl) _) ?_)
  show wpAny _ _ (pure ((#[] : Array Value) ++ vs.toArray).toList) Q E _
  rw [show ((#[] : Array Value) ++ vs.toArray).toList = vs by simp]
  exact wpAny_pure h
theorem sorted_ordT {l : Addr} {vs : List Value} {ltv : Value → Value → Bool} {Q : Value → Shared → Prop} (O : Swo ltv) (hl : s.heap.IsTuple l vs.toArray) (hz : vs.length ≤ sizeLine)
    (hS : 2 ≤ vs.length → ∀ (h₁ : Heap) (a : Addr), h₁.get? a = some (seqObj "list" vs.toArray 0) → (∀ b o, s.heap.get? b = some o → b ≠ a ∧ h₁.get? b = some o) → SortableO prog w A.in1.in1 { s with heap := h₁ } a vs ltv)
    (h : ∀ out : List Value, Srtd ltv out → Stb ltv out vs → Q (.ref (s.heap.objs.size + 1)) { s with heap := sortedAll s.heap vs out.toArray }) :
    wpAny (model prog w) A (call (.builtin "sorted") [.ref l]) Q E s := by
  refine Calls.call_function_entry kind_sorted plain_sorted entry_sorted (args_sorted1 _) ?_
  unfold Builtin.«sorted»
  refine wpAny_bind (m := checkCount "sorted" 1 1 _) (wpAny_pure ?_)
  refine wpAny_bind (collect_tup hl ?_ hz)
  refine wpAny_bind (wpAny_newList ?_ hz)
  have hsz : ((s.heap.push (seqObj "list" #[] 0)).update s.heap.objs.size (Obj.mapSeq (· ++ vs.toArray))).objs.size = s.heap.objs.size + 1 := by
    rw [Heap.size_update, size_push']
  have hoL : (((s.heap.push (seqObj "list" #[] 0)).update s.heap.objs.size (Obj.mapSeq (· ++ vs.toArray))).push (seqObj "list" vs.toArray 0)).get? (s.heap.objs.size + 1) = some (seqObj "list" vs.toArray 0) := by
    rw [← hsz]; exact Heap.get?_push_size _ rfl
  have keep : ∀ b o, s.heap.get? b = some o → b ≠ s.heap.objs.size + 1 ∧ (((s.heap.push (seqObj "list" #[] 0)).update s.heap.objs.size (Obj.mapSeq (· ++ vs.toArray))).push (seqObj "list" vs.toArray 0)).get? b = some o := fun b o q => by
    have hlt : b < s.heap.objs.size := Heap.lt_size q
    refine ⟨Nat.ne_of_lt (Nat.lt_succ_of_lt hlt), Heap.get?_push_of_some _ ?_⟩
    rw [Heap.get?_update_ne _ _ _ _ (Nat.ne_of_lt hlt)]
    exact Heap.get?_push_of_some _ q
  show wpAny _ _ _ _ _ { s with heap := ((s.heap.push (seqObj "list" #[] 0)).update s.heap.objs.size (Obj.mapSeq (· ++ vs.toArray))).push (seqObj "list" vs.toArray 0) }
  rw [hsz]
  refine wpAny_bind (wpAny_holding (wpAny_call_entry slot_list_sort ⟨_, hoL, rfl⟩ entry_list_sort (list_sort_ord O hoL hz (fun h2 => hS h2 _ _ hoL keep) fun out hs hb => ⟨_, rfl, ?_⟩) (args_list_sort _)))
  exact wpAny_pure ⟨_, rfl, h out hs hb⟩
end
end SrtO
namespace Pv
open PySem PySem.Spec PyProof.Rows L2
def rSortedTp (K : PySem.W.Frag) : List V → Hp → VK → Prop := fun vs H Q => ∃ (a : Addr) (ns : List Int), vs = [V.ref a] ∧ SqT K H a (ns.map V.int) ∧
  ∀ (ns' : List Int) (p : Addr), ns'.Perm ns → ns'.Pairwise (· ≤ ·) → H p = none → Q (.ref p) (upd H p (.lst (ns'.map V.int)))
def oSortT : D → Option D
  | .tuple ds => if ds.all isI then some (.list (srtD ds)) else none
  | _ => none
/-- sorted, of a list or of a tuple -/
def oSortA : D → Option D
  | .tuple ds => oSortT (.tuple ds)
  | d => oSorted d
section
variable {X : Cx} {Γ : List T}
theorem cr_sortedTp : CallR X (.builtin "sorted") (rSortedTp X.K) := by
  intro pins s σ H vs us Q I r h
  obtain ⟨a, ns, rfl, hs, q⟩ := h
  obtain ⟨its, rv, hl, hz⟩ := I.tuple hs
  rw [Vals.ref1 r]
  have hi := rv.ints
  refine SrtO.sorted_ordT SrtO.swo_int hl (by rw [← rv.length]; exact hz) (fun h2 h₁ a' _ _ => SrtO.ints_sortable hi h2) fun out h1 h2 => ?_
  obtain ⟨k1, k2, k3⟩ := SrtO.ints_out hi h1 h2
  obtain ⟨ep, he'⟩ := PyProof.Rows.sortedAll_at s.heap its out.toArray
  have hlen : ((out.map SrtO.iv).map V.int).length ≤ sizeLine := by
    rw [List.length_map, k2.length_eq]
    rw [List.length_map] at hz
    exact hz
  exact ⟨.ref _, upd H (s.heap.objs.size + 1) (.lst ((out.map SrtO.iv).map V.int)), I.laid (t' := s.toks) (fun _ _ => PyProof.Rows.sortedAll_old) (Nat.le_succ _) ⟨hlen, out, ep, vals_of_ints k1, he'⟩, rfl, q _ _ k2 k3 (I.hok.fresh (Nat.le_succ _))⟩
theorem cSortedT {e : Expr} {f : EF} {x : Str} {p pos : Pos} (hg : Gl X x) (hm : X.mg x = none) (hv : bootBuiltins x = some (.builtin "sorted")) (he : PE X e (tP X.K Γ .sh f)) (hn : x ≠ "__name__" := by decide) (hdb : (x == ("__debug__" : Str)) = false := by decide)
    (hs : starEach [e] X.env = (false, eval e X.env) :: starEach [] X.env := by rfl) :
    PE X (.Call (.Name x p) [e] [] pos) (tC X.K Γ (.ol .sh) (x1 oSortT f)) := (pe_callB cr_sortedTp hg hm hv (pa_cons he pa_nil hs) hn hdb hs rfl).imp fun σ H Q ⟨δ, Z, F, d, ok, e, k⟩ => by
  obtain ⟨dl, e1, e2⟩ := Option.bind_eq_some_iff.mp e
  refine ⟨δ, Z, F, dl, ok, e1, fun v H1 Z1 g s1 r => ?_⟩
  cases dl with
  | tuple ds =>
    replace e2 : (if ds.all isI then some (PyData.list (srtD ds)) else none) = some d := e2
    split at e2
    · rename_i hI
      cases e2
      obtain ⟨r, _⟩ := r.shOf
      cases r with
      | @tup a xs _ hx sa =>
        have fin : ∀ (zs : List V) (p : Addr), ShA X.K H1 Z1 zs (srtD ds) → H1 p = none → Q (.ref p) (upd H1 p (.lst zs)) := fun zs p sz hp => k _ _ Z1 [p] (s1.trans (Ext.new hp)) (.ol upd_same (sz.ext (Ext.new hp)).repA) (by simp) fun b h => by
          have eb : b = p := by simpa using h
          subst eb
          exact ⟨Same.free s1.same hp, fun hz => (ok.ext s1).zs b hz hp⟩
        obtain ⟨ns, rfl, rfl⟩ := sha_ints sa hI
        refine ⟨a, ns, rfl, SqT.of hx, fun ns' p h1 h2 hp => fin _ p ?_ hp⟩
        have e : srtD (ns.map PyData.int) = ns'.map PyData.int := by
          refine SrtO.srt_uniq ltD_swo (srtD_srt _) ?_ ((srtD_perm _).trans (h1.symm.map _)) fun x hx y hy l1 l2 => codD_inj (.inl ⟨?_, ?_⟩) (SrtO.lex_eq _ _ l1 l2)
          · refine List.pairwise_map.mpr (h2.imp fun {a b} h => ?_)
            show HT.lexLt [b] [a] = false
            rw [HT.lexLt_cons]
            split
            · rfl
            · exact decide_eq_false (by omega)
          · have := (srtD_perm _).mem_iff.mp hx
            obtain ⟨i, _, rfl⟩ := List.mem_map.mp this
            rfl
          · have := (srtD_perm _).mem_iff.mp hy
            obtain ⟨i, _, rfl⟩ := List.mem_map.mp this
            rfl
        rw [e]
        exact ints_sha ns'
    · cases e2
  | _ => cases e2
theorem cSortedA {e : Expr} {f : EF} {x : Str} {p pos : Pos} (hg : Gl X x) (hm : X.mg x = none) (hv : bootBuiltins x = some (.builtin "sorted")) (he : PE X e (tP X.K Γ .sh f)) (hn : x ≠ "__name__" := by decide) (hdb : (x == ("__debug__" : Str)) = false := by decide)
    (hs : starEach [e] X.env = (false, eval e X.env) :: starEach [] X.env := by rfl) :
    PE X (.Call (.Name x p) [e] [] pos) (tC X.K Γ (.ol .sh) (x1 oSortA f)) := (PE.or (cSorted hg hm hv rfl he hn hdb hs) (cSortedT hg hm hv he hn hdb hs)).imp fun σ H Q ⟨δ, Z, F, d, ok, e, k⟩ => by
  obtain ⟨dl, e1, e2⟩ := Option.bind_eq_some_iff.mp e
  cases dl with
  | tuple ds => exact .inr ⟨δ, Z, F, d, ok, Option.bind_eq_some_iff.mpr ⟨_, e1, e2⟩, k⟩
  | list ds => exact .inl ⟨δ, Z, F, d, ok, Option.bind_eq_some_iff.mpr ⟨_, e1, e2⟩, k⟩
  | _ => cases e2
end
end Pv

set_option Elab.async false
set_option linter.all false
set_option maxRecDepth 100000
set_option maxHeartbeats 1000000
/-! Pv23: exceptions whose context is None: raise, raise within a loop, try .. except X as e; isinstance(e, X); own defs called in the suite. -/
namespace Pv
open PySem PySem.Spec PyProof.Rows L2
def rfLoop (tg : D → List D → Option (List D)) (b : SF) (r : RF) : List D → RF
  | [], _ => none
  | x :: xs, δ => (tg x δ).bind fun δ1 => match b δ1 with
    | some (.nx δ') => rfLoop tg b r xs δ'
    | some (.ct δ') => rfLoop tg b r xs δ'
    | some _ => none
    | none => r δ1
def xIsE (i : Nat) (b : Bool) : EF := fun δ => (δ[i]?).bind fun _ => some (.bool b)
def rfFor (src : LF) (tg : D → List D → Option (List D)) (b : SF) (r : RF) : RF := fun δ => (src δ).bind fun ds => rfLoop tg b r ds δ
section
variable {K : PySem.W.Frag} {X : Cx} {Γ Γ' Γ1 Γ2 Γ3 Γx : List T} {H H' H1 H2 H3 : Hp} {Z Z' Z1 Z2 Z3 : FzT} {F F' F1 F2 : List Addr} {σ σ' σ1 : L2.St} {δ δ' : List D} {en eb ec er : List T} {et : T} {W : WX} {C : Addr}
/-! ### an own exception is made -/
theorem pmk_oexN {CX : CXT} {x : Str} {e : Expr} {es : List Expr} {ta : TA} {p pos : Pos} {C fI : Addr} {k : Nat} {fd : FuncData} {ps : List Str} {sp : Sp} (T : OexC X.K C) (iC : PySem.W.findIn X.K (.ref C) "__init__" = some (some (.ref fI))) (tI : PySem.W.typeIn X.K (.ref fI) = some (.type "function"))
    (F1 : FnOk X.prog X.w X.K X.mg X.base CX k fI fd ps sp) (hr : Room (k + 1) X.A) (hb : Binds X.K fd ps []) (hx : Passes CX X (fun _ _ _ => False)) (hg : Gl X x) (hm : X.mg x = some (.ref C)) (ha : PA X (e :: es) ta)
    (hdb : (x == ("__debug__" : Str)) = false := by decide) (he : starEach (e :: es) X.env = (false, eval e X.env) :: starEach es X.env := by rfl) (hpl : (backTo pos (starEach es X.env)).any (·.1) = false := by rfl) :
    L2N.PMk X (.Call (.Name x p) (e :: es) [] pos) (tMkO C sp [] ta) := by
  intro pins s σ H Q I h
  obtain ⟨nm, q, N, bs, bm, sn, sub, ab, col, dd, k0, k1, k2, k3, k5, hC, hbm⟩ := T.cls
  refine wpAny_Call_Name_kw (ld_glob I hg hm ?_ hdb)
  refine PySem.W.callWith_K (h₀ := X.base) I.ok.mod.kin T.kC (thn (ha.run pos pins s σ H _ I h) fun us s1 ⟨vs, H1, I1, r1, hz, q1⟩ => ⟨I1.kIn, ?_⟩) he hpl
  show wpAny _ _ (call (.ref C) us) _ _ _
  obtain ⟨hp, g, dr, tk, os⟩ := s1
  have hsz : hp.objs.size ≤ hp.objs.size + 1 := Nat.le_succ _
  have hn : H1 (hp.objs.size + 1) = none := I1.hok.fresh hsz
  have hq := q1 (hp.objs.size + 1) hn
  rw [List.append_nil] at hq
  have kk : ∀ b o, hp.get? b = some o → ((hp.push (PySem.W.kdv_tup us)).push (PySem.HandSPX.excO C hp.objs.size)).get? b = some o := fun b o e => Heap.get?_push_of_some _ (Heap.get?_push_of_some _ e)
  have hget : ((hp.push (PySem.W.kdv_tup us)).push (PySem.HandSPX.excO C hp.objs.size)).get? (hp.objs.size + 1) = some (PySem.HandSPX.excO C hp.objs.size) := by heap_get
  have I2 : Inv X pins σ (upd H1 (hp.objs.size + 1) (exo (hp.objs.size + 1) C none)) ⟨(hp.push (PySem.W.kdv_tup us)).push (PySem.HandSPX.excO C hp.objs.size), g, dr, tk, os⟩ :=
    I1.laid (t' := tk) (a := hp.objs.size + 1) (o := exo (hp.objs.size + 1) C none) (h' := (hp.push (PySem.W.kdv_tup us)).push (PySem.HandSPX.excO C hp.objs.size)) kk hsz (exo_ok hget)
  have r2 : Vals (V.ref (hp.objs.size + 1) :: vs) (Value.ref (hp.objs.size + 1) :: us) := .cons rfl r1
  have hl : (Value.ref (hp.objs.size + 1) :: us ++ []).length = ps.length := by
    have e := r2.length
    rw [F1.len _ _ _ _ hq] at e
    rw [List.append_nil]
    exact e.symm
  have hus : us.length ≤ sizeLine := by
    rw [← Paired.length r1, sizeLine_eq]
    omega
  have b2 := hb _ (Value.ref (hp.objs.size + 1) :: us) I2.kIn hl
  rw [List.append_nil] at b2
  refine wpAny_call (PySem.HandSPX.call_own F.excBase_ValueError (fun Y => PySem.HandSPX.refsVE_contains Y bm hbm) (I1.kIn _ _ hC) (PySem.W.looks_findIn I1.kIn iC) (fun self => PySem.W.bind_fn I1.kIn self tI) hus
    (codeAny_mono (F1.run _ X.stack _ _ ⟨Value.ref (hp.objs.size + 1) :: us, []⟩ (Value.ref (hp.objs.size + 1) :: us) _ _ (fun _ _ _ => False) (hr.make C us []) (I2.env0.make C us []) b2 r2 hq) fun r s' hq' => ?_))
  cases r with
  | error er => exact hx pins σ _ _ er s' I2 hq'
  | ok fl =>
    cases fl with
    | ret u =>
      obtain ⟨v, H2, os2, bare2, un2, hok2, rv, ev, d, fs, ea, ed, hd1, q2⟩ := hq'
      subst ev
      obtain ⟨h2, g2, d2, t2, os'⟩ := s'
      obtain ⟨t0, G, J, kG, ge, hoe, na⟩ := mk_end0 (d2 := d2) (t2 := t2) I1 hsz kk un2 hok2 os2 bare2 ea ed hd1
      exact ⟨rv, hp.objs.size + 1, _, _, ⟨G, g2, d2, t2, os'⟩, _, .ref C, some d, rfl, J, kG, ge, hoe, ⟨rfl, rfl, fun vs hv => by cases hv; rfl⟩, rfl, rfl, na, rfl, bare2, raises_own T.exC T.tyC, q2⟩
    | next => exact False.elim hq'
    | brk => exact False.elim hq'
    | cont => exact False.elim hq'
/-! ### raise -/
theorem rRaiseN {x f1 f2 s0 p1 p2 : Str} {k : Nat} {fI : Addr} {fd : FuncData} {e1 e2 : Expr} {p pos pos' : Pos} {fa : LF} (hc : X.calm = true) (tk : L2N.Takes X W) (T : OexC X.K C) (iC : PySem.W.findIn X.K (.ref C) "__init__" = some (some (.ref fI))) (tI : PySem.W.typeIn X.K (.ref fI) = some (.type "function"))
    (F1 : FnOk X.prog X.w X.K X.mg X.base CX0 k fI fd [s0, p1, p2] (spI C f1 f2)) (hr : Room (k + 1) X.A) (hb : Binds X.K fd [s0, p1, p2] []) (hg : Gl X x) (hm : X.mg x = some (.ref C)) (ha : PA X [e1, e2] (aP X.K Γ [.sh, .sh] fa)) (hne : (f1 == f2) = false := by decide)
    (hdb : (x == ("__debug__" : Str)) = false := by decide) (he : starEach (e1 :: [e2]) X.env = (false, eval e1 X.env) :: starEach [e2] X.env := by rfl) (hpl : (backTo pos (starEach [e2] X.env)).any (·.1) = false := by rfl) :
    PS X (.Raise (some (.Call (.Name x p) [e1, e2] [] pos)) none pos') (rS X.K C Γ Γ W (rfR f1 f2 fa)) :=
  (L2N.ps_raise hc tk (pmk_oexN (pos := pos) (p := p) T iC tI F1 hr hb pass0 hg hm ha hdb he hpl)).imp fun D σ H ⟨δ, Z, F, xs, δ', ok, e, k⟩ => by
  obtain ⟨ds, ed, e⟩ := Option.bind_eq_some_iff.mp e
  refine ⟨δ, Z, F, ds, ok, ed, fun vs H1 Z1 g s1 r1 => ?_⟩
  split at e
  · rename_i d1 d2
    cases e
    obtain ⟨v, w, rfl, sv, sw⟩ := vs2 r1
    refine ⟨by simp, fun a ha => ⟨a, v, w, rfl, upd_same, fun d hd hna => ⟨rfl, d, [(f2, w), (f1, v)], by rw [upd_ne (fun z => hna z.symm), upd_same], upd_same, by rw [upd_ne hna] at hd; exact hd, ?_⟩⟩⟩
    rw [upd_ne hna] at hd
    have eh : upd (L2.del (upd (upd (upd (upd H1 a (exo a C none)) d (exd d [(f1, v)])) a (exo a C (some d))) d (exd d [(f2, w), (f1, v)])) a) d (.xd [(f2, w), (f1, v)]) = upd H1 d (.xd [(f2, w), (f1, v)]) := by
      funext b
      by_cases hb : b = d
      · subst hb; rw [upd_same, upd_same]
      · rw [upd_ne hb, upd_ne hb]
        by_cases hba : b = a
        · subst hba; rw [L2.del_same]; exact ha.symm
        · rw [L2.del_ne hba, upd_ne hb, upd_ne hba, upd_ne hb, upd_ne hba]
    rw [eh]
    have s2 : Ext H1 Z1 (upd H1 d (.xd [(f2, w), (f1, v)])) (fun x => Z1 x ∨ x = d) := Ext.newZ hd
    have s3 := s1.trans s2
    refine k σ d _ _ F [(f2, w), (f1, v)] s3.stp (ok.ext s3) upd_same (.inr rfl) fun p hp => ?_
    simp only [List.mem_cons, List.not_mem_nil, or_false] at hp
    rcases hp with rfl | rfl
    · exact ⟨v, by simp [List.lookup, hne], sv.ext s2⟩
    · exact ⟨w, by simp [List.lookup], sw.ext s2⟩
  · cases e
/-- a for that raises -/
theorem rFor {iter tg : Expr} {body : List Stmt} {pos : Pos} {ix : List Nat} {src : LF} {tgf : D → List D → Option (List D)} {b : SF} {r : RF} (hp : PassesOwn (model X.prog X.w) X.A X.env X.xe) (hc : X.calm = true) (hi : PI X tg iter (tIP X.K Γ src)) (hg : PG X tg (tG X.K Γ Γ1 ix tgf))
    (hb : PSs X body (tS X.K Γ1 ⟨Γ, Γ, Γ, [], .no⟩ b)) (hb2 : PSs X body (rS X.K C Γ1 Γx W r)) (hs : ∀ x, foldedSetIterable iter X.env x = pure x := by intro _; rfl) : PS X (.For tg iter body [] pos) (rS X.K C Γ Γx W (rfFor src tgf b r)) :=
  (ps_for hp hc (iM hi) hg (hb.or hb2) hs).imp fun W0 σ H ⟨δ, Z, F, xs, δ', ok, e, k⟩ => by
  obtain ⟨ds, e1, e2⟩ := Option.bind_eq_some_iff.mp e
  refine ⟨δ, Z, F, ds, δ, ok, by unfold lmOf; rw [e1]; rfl, fun J H0 Z0 F0 s0 ok0 wk => ?_⟩
  obtain ⟨G, Y, walk, hG, hY⟩ := wk
  refine for_it (D := W0) (g := tG X.K Γ Γ1 ix tgf) (tb := fun D σ H => tS X.K Γ1 ⟨Γ, Γ, Γ, [], .no⟩ b D σ H ∨ rS X.K C Γ1 Γx W r D σ H) walk (fun i σi Hi => ∃ δi Zi Fi, Ok X.K Γ σi δi Hi Zi Fi ∧ rfLoop tgf b r (ds.drop i) δi = some (xs, δ') ∧ Stp H0 Z0 F0 Hi Zi Fi) ⟨δ, Z0, F0, ok0, e2, .refl⟩ ?_ ?_ ?_
  · rintro i σi Hi hi ⟨δi, Zi, Fi, oki, ei, si⟩
    exact hG Hi Zi (ok0.lat si)
  · rintro i x σi Hi H3 hi ⟨δi, Zi, Fi, oki, ei, si⟩ y
    obtain ⟨d, hd⟩ : ∃ d, ds[i]? = some d := ⟨ds[i], by simp [hi]⟩
    obtain ⟨Z3, s3, sx⟩ := hY i Hi Zi x H3 d (ok0.lat si) y hd
    have hdr : ds.drop i = d :: ds.drop (i + 1) := by
      rw [List.drop_eq_getElem_cons hi]
      have : ds[i] = d := by simpa [hi] using hd
      rw [this]
    rw [hdr] at ei
    obtain ⟨δ1, e3, e4⟩ := Option.bind_eq_some_iff.mp ei
    refine ⟨δi, Z3, Fi, d, δ1, oki.ext s3, sx, e3, fun σ1 F1 ok1 sb1 l1 j1 => ?_⟩
    have s4 : Stp H0 Z0 F0 H3 Z3 F1 := (si.trans s3.stp).sub sb1
    split at e4
    · rename_i δ2 e5
      exact .inl ⟨δ1, Z3, F1, _, ok1, e5, fun σ' H' Z' F' s' o' fx => ⟨δ2, Z', F', o', e4, s4.trans s'⟩⟩
    · rename_i δ2 e5
      exact .inl ⟨δ1, Z3, F1, _, ok1, e5, fun σ' H' Z' F' s' o' fx => ⟨δ2, Z', F', o', e4, s4.trans s'⟩⟩
    · cases e4
    · exact .inr ⟨δ1, Z3, F1, xs, δ', ok1, e4, fun σ' d H' Z' F' fs s' => k σ' d H' Z' F' fs (s0.trans (s4.trans s'))⟩
  · rintro σi Hi ⟨δi, Zi, Fi, oki, ei, si⟩
    rw [List.drop_length] at ei
    cases ei
/-! ### calls that raise -/
theorem pe_callRN {k : Nat} {f : Addr} {fd : FuncData} {ps : List Str} {S : RS} {x : Str} {p pos : Pos} {e : Expr} {es : List Expr} {fa : LF} (Fn : FnOk X.prog X.w X.K X.mg X.base (L2N.CX X.prog X.w) k f fd ps (spR X.K C S)) (hr : Room k X.A) (hg : Gl X x) (hm : X.mg x = some (.ref f)) (hk : PySem.W.keepIn X.K (.ref f) = true) (hb : Binds X.K fd ps []) (tk : L2N.Takes X W)
    (ha : PA X (e :: es) (aP X.K Γ S.ps fa)) (hdb : (x == ("__debug__" : Str)) = false := by decide) (he : starEach (e :: es) X.env = (false, eval e X.env) :: starEach es X.env := by rfl) (hpl : (backTo pos (starEach es X.env)).any (·.1) = false := by rfl) :
    PE X (.Call (.Name x p) (e :: es) [] pos) (tCallS (spR X.K C S) (WE W) (aP X.K Γ S.ps fa)) := pe_callS Fn hr hg hm hk hb (fun σ => L2N.passAt tk σ) ha hdb he hpl
theorem _root_.L2.Fun.okN {P : Program} {w : World} {mg : Str → Option Value} {base : Heap} {x qual : Str} {st : Stmt} {f : Addr} {fd : FuncData} {N ps : List Str} {k : Nat} {sp : Sp} (F : Fun K x qual st f fd) (S : FnScope N ps (defScope st)) (len : ∀ vs H Q E, sp vs H Q E → vs.length = ps.length)
    (hbody : ∀ (cdv : Value) (A : Around) (outer : List PySem.Env) (s : Shared) (H : Hp) (vs : List V) (Q : VK) (E : XK), Room k (A.deeper (envOfC qual (defScope st) s.heap.objs.size f cdv)) → sp vs H Q E →
      ∃ t, PSs (cxOf (L2N.CX P w) P w K mg base N qual (defScope st) f cdv A outer s H E) (defBody st) t ∧ t { nx := fun _ H' => Q .non H', rt := Q } (start N vs) H) : FnOk P w K mg base (L2N.CX P w) (k + 1) f fd ps sp := by
  obtain ⟨oc, od, kV, doc, pm, an, cdv, ct, osl, rfl, lk, hcd⟩ := F.ex
  exact fn_of lk hcd S len fun A outer s H vs Q E hr hsp => hbody cdv A outer s H vs Q E hr hsp
/-- THE RULE for a def that raises -/
theorem fn_raiseN {P : Program} {w : World} {mg : Str → Option Value} {base : Heap} {x qual : Str} {st : Stmt} {f : Addr} {fd : FuncData} {N ps : List Str} {k nl : Nat} {S : RS} {g : RF}
    (Fu : Fun K x qual st f fd) (Sc : FnScope N ps (defScope st)) (hp : S.ps.length = ps.length) (hN : N.length = ps.length + nl) (hf : S.f = fnR nl g)
    (body : ∀ (cdv : Value) (A : Around) (outer : List PySem.Env) (s : Shared) (H : Hp) (E : XK), Room k (A.deeper (envOfC qual (defScope st) s.heap.objs.size f cdv)) → PassesOwn (model P w) (A.deeper (envOfC qual (defScope st) s.heap.objs.size f cdv)) (cxOf (L2N.CX P w) P w K mg base N qual (defScope st) f cdv A outer s H E).env (cxOf (L2N.CX P w) P w K mg base N qual (defScope st) f cdv A outer s H E).xe → L2N.Takes (cxOf (L2N.CX P w) P w K mg base N qual (defScope st) f cdv A outer s H E) (fun cls d _ H => E cls d H) →
      PSs (cxOf (L2N.CX P w) P w K mg base N qual (defScope st) f cdv A outer s H E) (defBody st) (rS K C (S.ps ++ List.replicate nl .no) Γx (fun cls d _ H => E cls d H) g)) :
    FnOk P w K mg base (L2N.CX P w) (k + 1) f fd ps (spR K C S) := by
  refine Fun.okN Fu Sc (fun vs H Q E h => ?_) (fun cdv A outer s H vs Q E hr h => ?_)
  · obtain ⟨ds, Z, F, xs, ok, _⟩ := h
    have := ok.env.len.1
    rw [List.length_map] at this
    omega
  · obtain ⟨ds, Z, F, xs, ok, e, k⟩ := h
    have lv : vs.length = ps.length := by
      have := ok.env.len.1
      rw [List.length_map] at this
      omega
    rw [hf] at e
    obtain ⟨⟨xs', δ'⟩, e1, e2⟩ := Option.map_eq_some_iff.mp e
    cases e2
    refine ⟨_, body cdv A outer s H E hr (passes_of (X := cxOf (L2N.CX P w) P w K mg base N qual (defScope st) f cdv A outer s H E) rfl) (L2N.takes_of rfl rfl rfl rfl), ds ++ List.replicate nl .none, Z, F, xs', δ', ⟨?_, ok.nd, ok.dz, ok.zs⟩, e1, fun σ' d H' Z' F' fs s o hd hz hx => k d H' Z' F' fs s hd hz hx⟩
    have hs : L2.start N vs = vs.map some ++ List.replicate nl none := by
      unfold L2.start
      rw [show N.length - vs.length = nl by omega]
    rw [hs]
    exact ok.env.pad nl
/-! ### try .. except X as e -/
/-- within the suite of a caught exception, its context None -/
def CaughtN (Y : Cx) (C a dd : Addr) : Prop := ∃ (X : Cx) (oe : Obj) (pn : List (Addr × Obj)), Y = X.suite a ((a, oe) :: pn) ∧ L2N.Zn (.ref C) (some dd) oe ∧ ∃ vs, oe.data = .fields vs
theorem CaughtN.c {Y : Cx} {C a dd : Addr} (h : CaughtN Y C a dd) : CaughtC Y C a dd := by
  obtain ⟨X, oe, pn, e, z, v⟩ := h
  exact ⟨X, oe, pn, e, z.zc, v⟩
theorem CaughtN.hot {Y : Cx} {C a dd : Addr} (h : CaughtN Y C a dd) : L2H.HotC Y := by
  obtain ⟨X, oe, pn, rfl, z, vs, v⟩ := h
  exact ⟨(a, oe), ⟨rfl, vs, v, z.2.2 vs v⟩, List.mem_cons_self⟩
theorem zTryAsN {i : Nat} {x n : Str} {body suite : List Stmt} {b₀ : Stmt} {np pos pos' : Pos} {g su : SF} {r : RF} (hs : X.stack = X.env :: X.outer) (hf : X.env.frame = some X.env.locals) (hN : X.N.Nodup) (hi : X.N[i]? = some n) (hln : X.env.kindOf n = some .local) (hc : Names X x (.ref C))
    (he : PySem.W.exmOne X.K (.ref C) (.ref C) = some true) (hl : i < Γ.length) (hno : Γ1[i]? = some .no) (hr : er.all (· == .no) = true)
    (hb : ∀ (pn : List (Addr × Obj)) (xe : Value → Shared → Prop), PassesOwn (model X.prog X.w) X.A X.env xe → PSs (X.tr pn xe) body (tS X.K Γ ⟨Γ1, eb, ec, er, et⟩ g))
    (hb2 : ∀ (W : WX) (pn : List (Addr × Obj)) (xe : Value → Shared → Prop), L2N.Takes (X.tr pn xe) W → PassesOwn (model X.prog X.w) X.A X.env xe → PSs (X.tr pn xe) body (rS X.K C Γ Γ W r))
    (hsu : ∀ (a dd : Addr) (oe : Obj) (pn : List (Addr × Obj)), CaughtN (X.suite a ((a, oe) :: pn)) C a dd → PSs (X.suite a ((a, oe) :: pn)) (b₀ :: suite) (tS X.K (Γ.set i (.ex a dd)) ⟨Γ1, eb, ec, er, et⟩ su)) :
    PS X (.Try body [.ExceptHandler (some (.Name x np)) (some n) (b₀ :: suite) pos'] [] [] pos) (tS X.K Γ ⟨Γ1, eb, ec, er, et⟩ (sTry i g r su)) :=
  (L2N.ps_try_as (tb := fun W D σ H => tS X.K Γ ⟨Γ1, eb, ec, er, et⟩ g D σ H ∨ rS X.K C Γ Γ W r D σ H) (ts := fun a cls d D σ H => ∃ dd, cls = .ref C ∧ d = some dd ∧ tS X.K (Γ.set i (.ex a dd)) ⟨Γ1, eb, ec, er, et⟩ su D σ H) (Wout := fun _ _ _ _ => False) hs hf hN hi hln hc (fun u s' ⟨_, _, _, _, _, _, _, _, _, _, _, _, _, _, _, _, z⟩ => z.elim)
    (fun W pn xe tk hp => (hb pn xe hp).or (hb2 W pn xe tk hp)) (fun a oe cls d pn hz hv => ⟨fun pins s σ H D I ⟨dd, e1, e2, h⟩ => by subst e1; subst e2; exact (hsu a dd oe pn ⟨X, oe, pn, rfl, hz, hv⟩).run pins s σ H D I h⟩)).imp fun D σ H ⟨δ, Z, F, out, ok, e, p⟩ => by
  unfold sTry at e
  split at e
  · rename_i o eg
    cases e
    exact .inl ⟨δ, Z, F, _, ok, eg, p⟩
  · obtain ⟨⟨xs, δ'⟩, e1, e2⟩ := Option.bind_eq_some_iff.mp e
    obtain ⟨o, e3, e4⟩ := Option.bind_eq_some_iff.mp e2
    refine .inr ⟨δ, Z, F, xs, δ', ok, e1, fun σ' d H' Z' F' fs s o' hd hz hx => ⟨true, he, fun _ a ha => ?_, fun z => nomatch z⟩⟩
    obtain ⟨F2, o2, sb⟩ := o'.set (i := i) (t := .ex a d) (v := .ref a) (d := exD xs) (g := []) hl (.ex hz hd hx) (by simpa using o'.nd) (fun _ q => nomatch q)
    refine ⟨d, rfl, rfl, δ'.set i (exD xs), Z', F2, o, o2, e3, ?_⟩
    have s2 : Stp H Z F H' Z' F2 := s.sub fun a h => by simpa using sb a h
    cases o with
    | nx δ1 => cases e4; exact fun σ3 H3 Z3 F3 s3 o3 fx => p (σ3.set i none) H3 Z3 F3 (s2.trans s3) (o3.gone hno) (fix_no hr)
    | rt d1 δ1 => cases e4; exact fun v σ3 H3 Z3 F3 g3 s3 o3 fx r3 nd dz => p v σ3 H3 Z3 F3 g3 (s2.trans s3) o3 (fix_no hr) r3 nd dz
    | _ => cases e4
/-! ### isinstance(e, X) -/
def rIsN (K : PySem.W.Frag) (D a dd : Addr) : List V → Hp → VK → Prop := fun xs H Q => ∃ (c : V) (cv : Value) (b : Bool) (fs : List (Str × V)), xs = [.ref a, c] ∧ (∀ u, RelV c u → u = cv) ∧ PySem.W.kitOne K (.ref D) cv = some b ∧ H dd = some (.xd fs) ∧ Q (.bl b) H
theorem call_isN {Y : Cx} {a dd D : Addr} (C : ExcC Y.K D) (hz : CaughtN Y D a dd) : CallR Y (.builtin "isinstance") (rIsN Y.K D a dd) := by
  intro pins s σ H xs us Q I r h
  obtain ⟨X, oe, pn, rfl, hz, hf⟩ := hz
  obtain ⟨c, cv, b, fs, rfl, hcv, e, hdd, q⟩ := h
  obtain ⟨u1, u2, rfl, r1, r2⟩ := vals2 r
  obtain rfl : u1 = Value.ref a := r1
  have ec := hcv _ r2
  subst ec
  obtain ⟨hget, _⟩ := I.pin (a, oe) (List.mem_append.mpr (.inl List.mem_cons_self))
  obtain ⟨vs, hv⟩ := hf
  have hx : ObjOk X.prog X.w H s.heap dd (.xd fs) := I.hok dd _ hdd
  obtain ⟨mA, hns, hr⟩ := hx
  obtain ⟨od, ho, hl⟩ := lookIn_ns hns
  have J : PySem.W.InstAt s.heap a oe D (some od) := ⟨hget, hz.1, by unfold PySem.W.notCls; rw [hv] <;> rfl, by rw [hz.2.1]; exact ho⟩
  have hcl : (PySem.W.clsIn X.K D).isSome = true := by
    obtain ⟨cd, hc, _⟩ := PySem.W.any_some C.hd
    rw [hc]; rfl
  exact PySem.W.kia_one (PySem.W.kitx_exc hcl C.hg C.hk C.hs C.ha C.hn C.ht C.hm) I.kIn J e (fun z => nomatch z) fun tk => ⟨.bl b, H, I.tok tk, rfl, q⟩
/-- isinstance(e, X), X a global class -/
theorem cIsN {Y : Cx} {a dd D : Addr} {i : Nat} {nm x : Str} {b : Bool} {c : V} {cv : Value} {p p0 p2 pos : Pos} (T : ExcC Y.K D) (hz : CaughtN Y D a dd) (hg : Gl Y "isinstance") (hm : Y.mg "isinstance" = none) (hc : PE Y (.Name x p2) (L2.tC c)) (hcv : ∀ u, RelV c u → u = cv) (hk : PySem.W.kitOne Y.K (.ref D) cv = some b)
    (hv : PE Y (.Name nm p0) (tVar i)) (ht : Γ[i]? = some (.ex a dd)) (hs : starEach [.Name nm p0, .Name x p2] Y.env = (false, eval (.Name nm p0) Y.env) :: starEach [.Name x p2] Y.env := by rfl) (hs2 : starEach [.Name x p2] Y.env = (false, eval (.Name x p2) Y.env) :: starEach [] Y.env := by rfl) :
    PE Y (.Call (.Name "isinstance" p) [.Name nm p0, .Name x p2] [] pos) (tP Y.K Γ .sh (xIsE i b)) := (pe_callB (call_isN T hz) hg hm (by decide +kernel) (pa_cons hv (pa_cons hc pa_nil hs2) hs) (by decide) (by decide) hs (by rfl)).imp fun σ H Q ⟨δ, Z, F, d, ok, e, k⟩ => by
  unfold xIsE at e
  obtain ⟨y, e1, e2⟩ := Option.bind_eq_some_iff.mp e
  cases e2
  obtain ⟨v, g, h1, h2, _⟩ := ok.env.get ht (fun z => nomatch z) e1
  cases h2 with
  | @ex _ _ fs xs z h kx => exact ⟨.ref a, h1, c, cv, b, fs, rfl, hcv, hk, h, k (.bl b) H Z [] .refl (.sh (.bl b))⟩
end
end Pv

set_option Elab.async false
set_option linter.all false
set_option maxRecDepth 100000
set_option maxHeartbeats 1000000
/-! Pv24: own defs called while an exception is handled. -/
namespace Pv
open PySem PySem.Spec PyProof.Rows L2
section
variable {K : PySem.W.Frag} {X : Cx} {Γ Γ' Γ1 Γ2 Γ3 Γx : List T} {H H' H1 H2 H3 : Hp} {Z Z' Z1 Z2 Z3 : FzT} {F F' F1 F2 : List Addr} {σ σ' σ1 : L2.St} {δ δ' : List D} {en eb ec er : List T} {et : T} {W : WX} {C : Addr}
open L2H (FnH HotC Hot1 RoomH cxH)
theorem _root_.L2.Fun.okH {P : Program} {w : World} {mg : Str → Option Value} {base : Heap} {x qual : Str} {st : Stmt} {f : Addr} {fd : FuncData} {N ps : List Str} {k : Nat} {sp : Sp} (F : Fun K x qual st f fd) (S : FnScope N ps (defScope st)) (len : ∀ vs H Q E, sp vs H Q E → vs.length = ps.length)
    (hbody : ∀ (cdv : Value) (A : Around) (outer : List PySem.Env) (s : Shared) (H : Hp) (vs : List V) (Q : VK) (E : XK) (p : Addr × Obj), Hot1 A p → RoomH k (A.deeper (envOfC qual (defScope st) s.heap.objs.size f cdv)) → sp vs H Q E →
      ∃ t, PSs (cxH CX0 P w K mg base N qual (defScope st) f cdv A outer s H E p).nox (defBody st) t ∧ t { nx := fun _ H' => Q .non H', rt := Q } (start N vs) H) : FnH P w K mg base CX0 (k + 1) f fd ps sp := by
  obtain ⟨oc, od, kV, doc, pm, an, cdv, ct, osl, rfl, lk, hcd⟩ := F.ex
  refine L2H.fn_ofH lk hcd S len fun A outer s H vs Q E p hot hr hsp => ?_
  obtain ⟨t, h, q⟩ := hbody cdv A outer s H vs Q E p hot hr hsp
  exact ⟨t, h.nox, q⟩
theorem fnH_zero {P : Program} {w : World} {mg : Str → Option Value} {base : Heap} {f : Addr} {fd : FuncData} {ps : List Str} {S : FS} (h : S.ps.length = ps.length) (hf : S.f = f0) : FnH P w K mg base CX0 0 f fd ps (spF K S) := by
  refine ⟨fun vs H Q E h' => ?_, fun A outer s H args us vs Q E p hr hot hpin e0 hb r hsp => ?_⟩
  · obtain ⟨ds, Z, F, d, ds', ok, _⟩ := h'
    have := ok.env.len.1
    rw [List.length_map] at this
    omega
  · obtain ⟨ds, Z, F, d, ds', ok, e, _⟩ := hsp
    rw [hf] at e
    cases e
/-- THE RULE for a def that raises nothing, called while an exception is handled -/
theorem fn_valH {P : Program} {w : World} {mg : Str → Option Value} {base : Heap} {x qual : Str} {st : Stmt} {f : Addr} {fd : FuncData} {N ps : List Str} {k nl : Nat} {fo : Bool} {S : FS} {g : SF}
    (Fu : Fun K x qual st f fd) (Sc : FnScope N ps (defScope st)) (hp : S.ps.length = ps.length) (hio : S.io.length = ps.length) (hN : N.length = ps.length + nl) (hf : S.f = fnF nl fo g) (hfo : fo = true → S.t = .sh)
    (body : ∀ (cdv : Value) (A : Around) (outer : List PySem.Env) (s : Shared) (H : Hp) (E : XK) (p : Addr × Obj), HotC (cxH CX0 P w K mg base N qual (defScope st) f cdv A outer s H E p).nox → RoomH k (A.deeper (envOfC qual (defScope st) s.heap.objs.size f cdv)) →
      PSs (cxH CX0 P w K mg base N qual (defScope st) f cdv A outer s H E p).nox (defBody st) (tS K (S.ps ++ List.replicate nl .no) ⟨S.io ++ List.replicate nl .no, [], [], S.io ++ List.replicate nl .no, S.t⟩ g)) :
    FnH P w K mg base CX0 (k + 1) f fd ps (spF K S) := by
  refine Fun.okH Fu Sc (fun vs H Q E h => ?_) (fun cdv A outer s H vs Q E p hot hr h => ?_)
  · obtain ⟨ds, Z, F, d, ds', ok, _⟩ := h
    have := ok.env.len.1
    rw [List.length_map] at this
    omega
  · obtain ⟨ds, Z, F, d, ds', ok, e, k⟩ := h
    have lv : vs.length = ps.length := by
      have := ok.env.len.1
      rw [List.length_map] at this
      omega
    have ld : ds.length = ps.length := by
      have := ok.env.len.2
      omega
    rw [hf] at e
    obtain ⟨out, e1, e2⟩ := Option.bind_eq_some_iff.mp e
    refine ⟨_, body cdv A outer s H E p ⟨p, hot, List.mem_cons_self⟩ hr, ds ++ List.replicate nl .none, Z, F, out, ⟨?_, ok.nd, ok.dz, ok.zs⟩, e1, ?_⟩
    · have hs : L2.start N vs = vs.map some ++ List.replicate nl none := by
        unfold L2.start
        rw [show N.length - vs.length = nl by omega]
      rw [hs]
      exact ok.env.pad nl
    · have back : ∀ {σ' : L2.St} {δ' : List D} {H' : Hp} {Z' : FzT} {F' : List Addr}, Ok K (S.io ++ List.replicate nl .no) σ' δ' H' Z' F' → Fix (S.io ++ List.replicate nl .no) (L2.start N vs) σ' → Ok K S.io (vs.map some) (δ'.take ds.length) H' Z' F' := fun o fx => by
        rw [show ds.length = S.io.length by omega]
        refine ⟨o.env.back (all_rep nl) (by omega) fun i t hi n => ?_, o.nd, o.dz, o.zs⟩
        have hl : i < S.io.length := (List.getElem?_eq_some_iff.mp hi).1
        rw [fx i t (by rw [List.getElem?_append_left hl]; exact hi) n]
        unfold L2.start
        rw [List.getElem?_append_left (by rw [List.length_map]; omega)]
      cases out with
      | nx δ' =>
        unfold outF at e2
        cases hq : fo with
        | false => rw [hq] at e2; cases e2
        | true =>
          rw [hq] at e2
          cases e2
          intro σ' H' Z' F' s' o fx
          refine k .non H' Z' F' [] (by simpa using s') (back o fx) ?_ (by simpa using o.nd) (fun _ q => nomatch q)
          rw [hfo hq]
          exact .sh .non
      | rt d' δ' =>
        cases e2
        intro v σ' H' Z' F' g' s' o fx r nd dz
        exact k v H' Z' F' g' s' (back o fx) r nd dz
      | bk δ' => cases e2
      | ct δ' => cases e2
theorem _root_.L2H.RoomH.units {k : Nat} {A : Around} (r : RoomH k A) : A.units + 64 < cLine := by have := r.un; omega
/-- f(e, ..) of a def that takes and gives shared data alone -/
theorem cCallH {k : Nat} {f : Addr} {fd : FuncData} {ps : List Str} {S : FS} {x : Str} {p pos : Pos} {e : Expr} {es : List Expr} {fa : LF} (hc : HotC X) (Fn : FnH X.prog X.w X.K X.mg X.base CX0 k f fd ps (spF X.K S)) (hr : RoomH k X.A) (hg : Gl X x) (hm : X.mg x = some (.ref f)) (hk : PySem.W.keepIn X.K (.ref f) = true)
    (hb : Binds X.K fd ps []) (ha : PA X (e :: es) (aP X.K Γ S.ps fa)) (h1 : S.ps.all (· == .sh) = true) (h2 : S.io.all (· == .no) = true) (hdb : (x == ("__debug__" : Str)) = false := by decide)
    (he : starEach (e :: es) X.env = (false, eval e X.env) :: starEach es X.env := by rfl) (hpl : (backTo pos (starEach es X.env)).any (·.1) = false := by rfl) :
    PE X (.Call (.Name x p) (e :: es) [] pos) (tC X.K Γ S.t (xCall S.f fa)) := (L2H.pe_callH (E := fun _ => E0) Fn hr hc hg hm hk hb (fun σ _ _ _ _ _ _ h => h.elim) ha hdb he hpl).imp fun σ H Q ⟨δ, Z, F, d, ok, e, k⟩ => by
  obtain ⟨ds, e1, e2⟩ := Option.bind_eq_some_iff.mp e
  obtain ⟨⟨d', ds'⟩, e3, e4⟩ := Option.map_eq_some_iff.mp e2
  cases e4
  refine ⟨δ, Z, F, ds, ok, e1, fun vs H1 Z1 g s1 r1 => ?_⟩
  have eg := r1.shs h1
  subst eg
  refine ⟨ds, Z1, [], d', ds', ⟨r1, .nil, (fun _ q => nomatch q), (ok.ext s1).zs⟩, e3, fun v H' Z' F' g' s' o r nd dz => ?_⟩
  have eF := o.env.nos h2
  subst eF
  refine k v H' Z' g' (s1.trans (s'.sub fun a q => nomatch q)) r (by simpa using nd) fun a ha => ⟨?_, dz a ha⟩
  rcases s'.own a ha with z | z
  · cases z
  · exact Same.free s1.same z
/-- for x in range(n) -/
theorem zForRH {a tg : Expr} {body : List Stmt} {p ip pos : Pos} {ix : List Nat} {f : LF} {tgf : D → List D → Option (List D)} {b : SF} (hp : PassesOwn (model X.prog X.w) X.A X.env X.xe) (hc : HotC X) (hg : Gl X "range") (hm : X.mg "range" = none) (ha : PA X [a] (aP X.K Γ [.sh] f)) (hgt : PG X tg (tG X.K Γ Γ1 ix tgf))
    (hb : PSs X body (tS X.K Γ1 ⟨Γ, Γ, Γ, er, et⟩ b)) (hr : noIx er ix = true) (hs : starEach [a] X.env = [(false, eval a X.env)] := by rfl) (hs2 : ∀ x, foldedSetIterable (.Call (.Name "range" p) [a] [] ip) X.env x = pure x := by intro _; rfl) :
    PS X (.For tg (.Call (.Name "range" p) [a] [] ip) body [] pos) (tS X.K Γ ⟨Γ, eb, ec, er, et⟩ (sFor (lOf rng1 f) tgf b)) :=
  (L2H.ps_forH hp hc (L2H.pi_range1H hg hm ha hs) hgt hb hs2).imp fun W σ H ⟨δ, Z, F, out, ok, e, p⟩ => by
  obtain ⟨ds, e1, e2⟩ := Option.bind_eq_some_iff.mp e
  obtain ⟨as, e3, e4⟩ := Option.bind_eq_some_iff.mp e1
  unfold rng1 at e4
  split at e4
  · split at e4
    · rename_i j hj
      cases e4
      refine ⟨δ, Z, F, _, ok, e3, fun vs H0 Z0 g s0 r1 => ?_⟩
      obtain ⟨v, rfl, sv⟩ := vs1 r1
      have := sv.intOf
      subst this
      refine ⟨j, rfl, hj.1, hj.2, ?_⟩
      obtain ⟨G, Y, walk, hG, hY⟩ := (wks_rng : Wks X.K (Itr 0 j.toNat) (rngD 0 j.toNat) H0 Z0)
      have ok0 := ok.ext s0
      refine for_it walk (fun i σi Hi => ∃ δi Zi Fi, Ok X.K Γ σi δi Hi Zi Fi ∧ forL tgf b ((rngD 0 j.toNat).drop i) δi = some out ∧ Stp H0 Z0 F Hi Zi Fi ∧ Fix er σ σi) ⟨δ, Z0, F, ok0, e2, .refl, .refl _ _⟩ ?_ ?_ ?_
      · rintro i σi Hi hi ⟨δi, Zi, Fi, oki, ei, si, fi⟩
        exact hG Hi Zi (ok0.lat si)
      · rintro i x σi Hi H3 hi ⟨δi, Zi, Fi, oki, ei, si, fi⟩ y
        obtain ⟨d, hd⟩ : ∃ d, (rngD 0 j.toNat)[i]? = some d := ⟨(rngD 0 j.toNat)[i], by simp [hi]⟩
        obtain ⟨Z3, s3, sx⟩ := hY i Hi Zi x H3 d (ok0.lat si) y hd
        have hdr : (rngD 0 j.toNat).drop i = d :: (rngD 0 j.toNat).drop (i + 1) := by
          rw [List.drop_eq_getElem_cons hi]
          have : (rngD 0 j.toNat)[i] = d := by simpa [hi] using hd
          rw [this]
        rw [hdr] at ei
        obtain ⟨δ1, e5, e6⟩ := Option.bind_eq_some_iff.mp ei
        obtain ⟨o, e7, e8⟩ := Option.bind_eq_some_iff.mp e6
        refine ⟨δi, Z3, Fi, d, δ1, oki.ext s3, sx, e5, fun σ1 F1 ok1 sb1 l1 j1 => ⟨δ1, Z3, F1, o, ok1, e7, ?_⟩⟩
        have s4 : Stp H0 Z0 F H3 Z3 F1 := (si.trans s3.stp).sub sb1
        have f1 : Fix er σ σ1 := fi.trans (fix_ix hr j1)
        cases o with
        | nx δ' => exact fun σ' H' Z' F' s' o' fx => ⟨δ', Z', F', o', e8, s4.trans s', f1.trans fx⟩
        | ct δ' => exact fun σ' H' Z' F' s' o' fx => ⟨δ', Z', F', o', e8, s4.trans s', f1.trans fx⟩
        | bk δ' => cases e8; exact fun σ' H' Z' F' s' o' fx => p σ' H' Z' F' (s0.stp.trans (s4.trans s')) o' (f1.trans fx)
        | rt d δ' => cases e8; exact fun v σ' H' Z' F' g s' o' fx r nd dz => p v σ' H' Z' F' g (s0.stp.trans (s4.trans s')) o' (f1.trans fx) r nd dz
      · rintro σi Hi ⟨δi, Zi, Fi, oki, ei, si, fi⟩
        rw [List.drop_length] at ei
        cases ei
        exact p σi Hi Zi Fi (s0.stp.trans si) oki fi
    · cases e4
  · cases e4
/-- f() -/
theorem cCall0 {k : Nat} {f : Addr} {fd : FuncData} {S : FS} {x : Str} {p pos : Pos} (Fn : FnOk X.prog X.w X.K X.mg X.base CX0 k f fd [] (spF X.K S)) (hr : Room k X.A) (hg : Gl X x) (hm : X.mg x = some (.ref f)) (hk : PySem.W.keepIn X.K (.ref f) = true)
    (hb : Binds X.K fd [] []) (h1 : S.ps = []) (h2 : S.io = []) (hdb : (x == ("__debug__" : Str)) = false := by decide) :
    PE X (.Call (.Name x p) [] [] pos) (tC X.K Γ S.t (xCall S.f xNil)) := (pe_call0 Fn hr hg hm hk hb .nil pass0 hdb).imp fun σ H Q ⟨δ, Z, F, d, ok, e, k⟩ => by
  obtain ⟨ds, e1, e2⟩ := Option.bind_eq_some_iff.mp e
  obtain ⟨⟨d', ds'⟩, e3, e4⟩ := Option.map_eq_some_iff.mp e2
  cases e4
  cases e1
  refine ⟨[], Z, [], d', ds', ⟨by rw [h1]; exact .nil, .nil, (fun _ q => nomatch q), ok.zs⟩, e3, fun v H' Z' F' g' s' o r nd dz => ?_⟩
  have eF := o.env.nos (by rw [h2]; rfl)
  subst eF
  refine k v H' Z' g' (s'.sub fun a q => nomatch q) r (by simpa using nd) fun a ha => ⟨?_, dz a ha⟩
  rcases s'.own a ha with z | z
  · cases z
  · exact z
end
end Pv

set_option Elab.async false
set_option linter.all false
set_option maxRecDepth 100000
set_option maxHeartbeats 1000000
/-! Pv25: texts: s[i], join, split, str(i), a sign in a text, for over a text, f-strings; slices of lists, list + list. -/
namespace Pv
open PySem PySem.Spec PyProof.Rows L2
def dIxS (x y : D) : Option D := match x, y with
  | .str z, .int j => if z.length ≤ sizeLine then (atI z.cps.toList j).map fun c => .str ⟨#[c]⟩ else none
  | _, _ => none
def strsD : List D → Option (List Str)
  | [] => some []
  | .str y :: ds => (strsD ds).map (y :: ·)
  | _ :: _ => none
def dJoin (x y : D) : Option D := match x, y with
  | .str a, .list ds => (strsD ds).bind fun ys => if (ys.map (·.length)).sum + ys.length * a.length ≤ 16777216 then some (.str (Txt.join a ys)) else none
  | _, _ => none
def dSplit (x y : D) : Option D := match x, y with
  | .str a, .str b => if (b.length == 0) = false ∧ a.length + 2 ≤ sizeLine then some (.list ((Txt.split a b).map .str)) else none
  | _, _ => none
def oStr : List D → Option D
  | [.int i] => if i.natAbs.log2 < 1920 then some (.str (toString i)) else none
  | _ => none
def dNotInS (x y : D) : Option D := match x, y with
  | .str c, .str z => match c.cps.toList with
    | [k] => some (.bool (!decide (k ∈ z.cps.toList)))
    | _ => none
  | _, _ => none
def signsD (z : Str) : List D := z.cps.toList.map fun c => .str ⟨#[c]⟩
def lStr (f : EF) : LF := fun δ => (f δ).bind fun d => match d with | .str z => some (signsD z) | _ => none
def dFmt : D → Option D
  | .str y => if y.length ≤ sizeLine then some (.str y) else none
  | .int i => if i.natAbs.log2 < 1920 then some (.str (toString i)) else none
  | _ => none
def jsD : List EF → Str → List D → Option Str
  | [], acc, _ => some acc
  | f :: fs, acc, δ => (f δ).bind fun d => match d with
    | .str y => if (acc ++ y).length ≤ sizeLine then jsD fs (acc ++ y) δ else none
    | _ => none
def xFs (fs : List EF) : EF := fun δ => (jsD fs Str.empty δ).map .str
def xSlL (f : EF) (lo hi : OF) : EF := fun δ => (f δ).bind fun d => match d with
  | .list ds => (lo δ).bind fun l => (hi δ).bind fun h => some (.list (cutD ds l h))
  | _ => none
def dCatL (x y : D) : Option D := match x, y with
  | .list a, .list b => if a.length + b.length ≤ sizeLine then some (.list (a ++ b)) else none
  | _, _ => none
/-- x is True, x any data -/
def isBD (b : Bool) : D → Bool
  | .bool a => decide (a = b)
  | _ => false
def dIsBA : D → D → Option D
  | x, .bool b => some (.bool (isBD b x))
  | _, _ => none
def dNotBA : D → D → Option D
  | x, .bool b => some (.bool (!isBD b x))
  | _, _ => none
/-- what shared data is held by -/
def plV : V → Bool
  | .non => true
  | .bl _ => true
  | .int _ => true
  | .str _ => true
  | .ref _ => true
  | _ => false
def isBV (b : Bool) : V → Bool
  | .bl a => decide (a = b)
  | _ => false
def rIsBA (neg : Bool) : R2 := fun x y H Q => ∃ b : Bool, y = .bl b ∧ plV x = true ∧ Q (.bl (neg != isBV b x)) H
section
variable {K : PySem.W.Frag} {X : Cx} {Γ Γ' Γ1 Γ2 Γ3 Γx : List T} {H H' H1 H2 H3 : Hp} {Z Z' Z1 Z2 Z3 : FzT} {F F' F1 F2 : List Addr} {σ σ' σ1 : L2.St} {δ δ' : List D} {en eb ec er : List T} {et : T} {W : WX} {C : Addr}
theorem is_pl {x : V} {v : Value} {b : Bool} (r : RelV x v) (h : plV x = true) : plainIs v (.bool b) = true ∧ (v == Value.bool b) = isBV b x := by
  cases x <;> try (cases h; done)
  · cases (show v = Value.none from r); exact ⟨rfl, rfl⟩
  · rename_i a
    cases (show v = Value.bool a from r)
    refine ⟨rfl, ?_⟩
    cases a <;> cases b <;> rfl
  · obtain ⟨t, rfl⟩ := r; exact ⟨rfl, rfl⟩
  · obtain ⟨t, rfl⟩ := r; exact ⟨rfl, rfl⟩
  · rename_i a
    cases (show v = Value.ref a from r); exact ⟨rfl, rfl⟩
theorem op_isBA : OpR X (compareOp .Is) (rIsBA false) := by
  intro pins s σ H x y v u Q I rx ry h
  obtain ⟨b, rfl, hp, q⟩ := h
  cases (show u = Value.bool b from ry)
  obtain ⟨h1, h2⟩ := is_pl (b := b) rx hp
  refine wpAny_is_plain h1 ⟨.bl (isBV b x), H, I, by rw [h2]; rfl, ?_⟩
  have : (false != isBV b x) = isBV b x := by cases isBV b x <;> rfl
  rw [this] at q
  exact q
theorem op_notBA : OpR X (compareOp .IsNot) (rIsBA true) := by
  intro pins s σ H x y v u Q I rx ry h
  obtain ⟨b, rfl, hp, q⟩ := h
  cases (show u = Value.bool b from ry)
  obtain ⟨h1, h2⟩ := is_pl (b := b) rx hp
  refine wpAny_isNot_plain h1 ⟨.bl (!isBV b x), H, I, by rw [h2]; rfl, ?_⟩
  have : (true != isBV b x) = !isBV b x := by cases isBV b x <;> rfl
  rw [this] at q
  exact q
theorem sh_pl {v : V} {d : D} (b : Bool) (h : Sh K H Z v d) : plV v = true ∧ isBV b v = isBD b d := by
  cases h <;> exact ⟨rfl, rfl⟩
theorem isBA_s : OpS K (rIsBA false) .sh .sh .sh dIsBA := by
  intro H Z x y dx dy d f g Q rx ry e k
  unfold dIsBA at e
  split at e
  · rename_i b
    cases e
    obtain ⟨h1, h2⟩ := sh_pl b rx.shOf.1
    refine ⟨b, ry.shOf.1.blOf, h1, ?_⟩
    have : (false != isBV b x) = isBV b x := by cases isBV b x <;> rfl
    rw [this, h2]
    exact k _ H Z [] .refl (.sh (.bl _))
  · cases e
theorem notBA_s : OpS K (rIsBA true) .sh .sh .sh dNotBA := by
  intro H Z x y dx dy d f g Q rx ry e k
  unfold dNotBA at e
  split at e
  · rename_i b
    cases e
    obtain ⟨h1, h2⟩ := sh_pl b rx.shOf.1
    refine ⟨b, ry.shOf.1.blOf, h1, ?_⟩
    have : (true != isBV b x) = !isBV b x := by cases isBV b x <;> rfl
    rw [this, h2]
    exact k _ H Z [] .refl (.sh (.bl _))
  · cases e
theorem ixs_s : OpS K (rIx K) .sh .sh .sh dIxS := by
  intro H Z x y dx dy d f g' Q rx ry e k
  obtain ⟨sx, _⟩ := rx.shOf
  obtain ⟨sy, _⟩ := ry.shOf
  unfold dIxS at e
  split at e
  · split at e
    · rename_i hz
      obtain ⟨c, hc, rfl⟩ := Option.map_eq_some_iff.mp e
      exact .inr (.inr ⟨_, _, c, sx.strOf, sy.intOf, hz, hc, k _ H Z [] .refl (.sh (.str _))⟩)
    · cases e
  · cases e
theorem cIxS {fa fb : EF} {a b : Expr} {pos : Pos} (ha : PE X a (tP X.K Γ .sh fa)) (hb : PE X b (tP X.K Γ .sh fb)) (hs : PlainIx b) : PE X (.Subscript a b pos) (tP X.K Γ .sh (x2 dIxS fa fb)) :=
  (pe_ix ix_seq ha hb hs).imp fun _ _ _ => p2 ixs_s
theorem strs_V : ∀ {xs : List V} {ds : List D} {ys : List Str}, ShA K H Z xs ds → strsD ds = some ys → xs = ys.map V.str
  | _, _, _, .nil, e => by cases e; rfl
  | _, .str y :: _, _, .cons h r, e => by
    obtain ⟨ys, e1, e2⟩ := Option.map_eq_some_iff.mp e
    cases e2
    rw [List.map_cons, strs_V r e1, h.strOf]
  | _, .none :: _, _, _, e => by cases e
  | _, .bool _ :: _, _, _, e => by cases e
  | _, .int _ :: _, _, _, e => by cases e
  | _, .list _ :: _, _, _, e => by cases e
  | _, .tuple _ :: _, _, _, e => by cases e
  | _, .dict _ :: _, _, _, e => by cases e
theorem cJoin {o e : Expr} {fa fb : EF} {apos pos : Pos} (ho : PE X o (tP X.K Γ .sh fa)) (he : PE X e (tP X.K Γ .sh fb)) (hs : starEach [e] X.env = [(false, eval e X.env)] := by rfl) (hbase : attributeBase o "join" X.env (eval o X.env) = eval o X.env := by rfl) (hline : (apos.endLine == pos.line) = true := by rfl) :
    PE X (.Call (.Attribute o "join" apos) [e] [] pos) (tP X.K Γ .sh (x2 dJoin fa fb)) := (pe_join ho he hs hbase hline).imp fun σ H Q ⟨δ, Z, F, d, ok, e, k⟩ => by
  obtain ⟨x, e1, e⟩ := Option.bind_eq_some_iff.mp e
  obtain ⟨y, e2, e⟩ := Option.bind_eq_some_iff.mp e
  unfold dJoin at e
  split at e
  · obtain ⟨ys, e3, e4⟩ := Option.bind_eq_some_iff.mp e
    split at e4
    · rename_i hz
      cases e4
      refine ⟨δ, Z, F, _, ok, e1, fun v H1 Z1 g s1 r1 => ⟨⟨_, r1.shOf.1.strOf⟩, δ, Z1, F, _, ok.ext s1, e2, fun w H2 Z2 g2 s2 r2 => ?_⟩⟩
      obtain ⟨q, _⟩ := r2.shOf
      cases q with
      | lst z r => exact ⟨_, _, ys, r1.shOf.1.strOf, rfl, .inl (by rw [← strs_V r e3]; exact z.sql), hz, k _ H2 Z2 [] (s1.trans s2) (.sh (.str _))⟩
    · cases e4
  · cases e
theorem sha_strs : ∀ (ys : List Str), ShA K H Z (ys.map V.str) (ys.map .str)
  | [] => .nil
  | y :: ys => .cons (.str y) (sha_strs ys)
theorem cSplit {o e : Expr} {fa fb : EF} {apos pos : Pos} (ho : PE X o (tP X.K Γ .sh fa)) (he : PE X e (tP X.K Γ .sh fb)) (hs : starEach [e] X.env = [(false, eval e X.env)] := by rfl) (hbase : attributeBase o "split" X.env (eval o X.env) = eval o X.env := by rfl) (hline : (apos.endLine == pos.line) = true := by rfl) :
    PE X (.Call (.Attribute o "split" apos) [e] [] pos) (tC X.K Γ (.ol .sh) (x2 dSplit fa fb)) := (pe_split ho he hs hbase hline).imp fun σ H Q ⟨δ, Z, F, d, ok, e, k⟩ => by
  obtain ⟨x, e1, e⟩ := Option.bind_eq_some_iff.mp e
  obtain ⟨y, e2, e⟩ := Option.bind_eq_some_iff.mp e
  unfold dSplit at e
  split at e
  · split at e
    · rename_i hz
      cases e
      refine ⟨δ, Z, F, _, ok, e1, fun v H1 Z1 g s1 r1 => ⟨⟨_, r1.shOf.1.strOf⟩, δ, Z1, F, _, ok.ext s1, e2, fun w H2 Z2 g2 s2 r2 => ⟨_, _, r1.shOf.1.strOf, by rw [r2.shOf.1.strOf], hz.1, hz.2, fun p hp => ?_⟩⟩⟩
      have s12 := s1.trans s2
      refine k _ _ Z2 [p] (s12.trans (Ext.new hp)) (.ol upd_same (sha_strs _).repA) (by simp) fun a h => ?_
      have ea : a = p := by simpa using h
      subst ea
      exact ⟨Same.free s12.same hp, fun hz => (ok.ext s12).zs a hz hp⟩
    · cases e
  · cases e
theorem str_s : CalS K (fun xs H Q => ∃ i, xs = [V.int i] ∧ i.natAbs.log2 < 1920 ∧ Q (.str (toString i)) H) [.sh] .sh oStr := by
  intro H Z vs ds d g Q en e k
  unfold oStr at e
  split at e
  · split at e
    · rename_i hz
      cases e
      obtain ⟨v, rfl, s⟩ := vs1 en
      have := s.intOf; subst this
      exact ⟨_, rfl, hz, k _ H Z [] .refl (.sh (.str _))⟩
    · cases e
  · cases e
theorem notinS_s : OpS K (fun x y H Q => ∃ (c : Nat) (z : Str), x = .str ⟨#[c]⟩ ∧ y = .str z ∧ Q (.bl (!decide (c ∈ z.cps.toList))) H) .sh .sh .sh dNotInS := by
  intro H Z x y dx dy d f g' Q rx ry e k
  obtain ⟨sx, _⟩ := rx.shOf
  obtain ⟨sy, _⟩ := ry.shOf
  unfold dNotInS at e
  split at e
  · rename_i c z
    split at e
    · rename_i j hj
      cases e
      have ec : c = ⟨#[j]⟩ := by
        have : c.cps = #[j] := by rw [← Array.toList_inj, hj]
        exact Str.ext' this
      rw [ec] at sx
      exact ⟨j, z, sx.strOf, sy.strOf, k _ H Z [] .refl (.sh (.bl _))⟩
    · cases e
  · cases e
theorem wks_str {z : Str} : Wks K (Its z) (signsD z) H Z := by
  refine ⟨fun _ => True, _, by rw [show (signsD z).length = z.cps.size by simp [signsD]]; exact walk_str, fun _ _ _ => trivial, fun i H2 Z2 x H3 d l y e => ?_⟩
  obtain ⟨rfl, c, hc, rfl⟩ := y
  unfold signsD at e
  rw [List.getElem?_map, Option.map_eq_some_iff] at e
  obtain ⟨c', ec, rfl⟩ := e
  have : c = c' := by
    rw [Array.getElem?_toList, hc] at ec
    exact Option.some.inj ec
  subst this
  exact ⟨Z2, .refl, .str _⟩
theorem iStrD {tg e : Expr} {f : EF} (h : PE X e (tP X.K Γ .sh f)) : PI X tg e (tIP X.K Γ (lStr f)) := (pi_str h).imp fun σ H R ⟨δ, Z, F, ds, ok, e, k⟩ => by
  obtain ⟨d, e1, e3⟩ := Option.bind_eq_some_iff.mp e
  split at e3
  · rename_i z
    cases e3
    exact ⟨δ, Z, F, _, ok, e1, fun v H1 Z1 g s1 r1 => ⟨z, r1.shOf.1.strOf, k _ H1 Z1 s1 wks_str⟩⟩
  · cases e3
/-! ### f-strings -/
theorem cFmt {e : Expr} {f : EF} {pos : Pos} (he : PE X e (tP X.K Γ .sh f)) : PE X (.FormattedValue e (-1) none pos) (tP X.K Γ .sh (x1 dFmt f)) := (pe_fmt he).imp fun σ H Q ⟨δ, Z, F, d, ok, e, k⟩ => by
  obtain ⟨x, e1, e⟩ := Option.bind_eq_some_iff.mp e
  refine ⟨δ, Z, F, x, ok, e1, fun v H1 Z1 g s1 r1 => ?_⟩
  unfold dFmt at e
  split at e
  · split at e
    · rename_i hz
      cases e
      exact .inl ⟨_, r1.shOf.1.strOf, hz, k _ H1 Z1 [] s1 (.sh (.str _))⟩
    · cases e
  · split at e
    · rename_i hz
      cases e
      exact .inr ⟨_, r1.shOf.1.intOf, hz, k _ H1 Z1 [] s1 (.sh (.str _))⟩
    · cases e
  · cases e
def JD (X : Cx) (Γ : List T) (es : List Expr) (fs : List EF) : Prop := ∃ ts, PJ X es ts ∧ ∀ acc σ H (Q : Str → Hp → Prop), (∃ δ Z F out, Ok X.K Γ σ δ H Z F ∧ jsD fs acc δ = some out ∧ ∀ H' Z', Ext H Z H' Z' → Q out H') → tJs ts acc σ H Q
theorem jNil : JD X Γ [] [] := ⟨[], .nil, fun acc σ H Q ⟨δ, Z, F, out, ok, e, k⟩ => by cases e; exact k H Z .refl⟩
theorem jCons {e : Expr} {es : List Expr} {f : EF} {fs : List EF} (he : PE X e (tP X.K Γ .sh f)) (r : JD X Γ es fs) : JD X Γ (e :: es) (f :: fs) := by
  obtain ⟨ts, h, i⟩ := r
  refine ⟨_, .cons he h, fun acc σ H Q ⟨δ, Z, F, out, ok, e, k⟩ => ?_⟩
  obtain ⟨d, e1, e2⟩ := Option.bind_eq_some_iff.mp e
  split at e2
  · rename_i y
    split at e2
    · rename_i hz
      exact ⟨δ, Z, F, _, ok, e1, fun v H1 Z1 g s1 r1 => ⟨y, r1.shOf.1.strOf, hz, i _ _ _ _ ⟨δ, Z1, F, out, ok.ext s1, e2, fun H2 Z2 s2 => k H2 Z2 (s1.trans s2)⟩⟩⟩
    · cases e2
  · cases e2
theorem cFs {v1 v2 : Expr} {rest : List Expr} {fs : List EF} {pos : Pos} (h : JD X Γ (v1 :: v2 :: rest) fs) : PE X (.JoinedStr (v1 :: v2 :: rest) pos) (tP X.K Γ .sh (xFs fs)) := by
  obtain ⟨ts, h, i⟩ := h
  refine (pe_joined h).imp fun σ H Q ⟨δ, Z, F, d, ok, e, k⟩ => ?_
  obtain ⟨out, e1, e2⟩ := Option.map_eq_some_iff.mp e
  cases e2
  exact i _ _ _ _ ⟨δ, Z, F, out, ok, e1, fun H' Z' s => k _ H' Z' [] s (.sh (.str _))⟩
/-! ### lists -/
theorem sl_of {t : T} {y : V} {ds : List D} {g : List Addr} (ht : seqT t = true) (r : Rep K H Z t y (.list ds) g) : ∃ p xs, y = .ref p ∧ SqL K H p xs ∧ ShA K H Z xs ds := by
  cases r with
  | no => cases ht
  | sh h => cases h with | lst z r => exact ⟨_, _, rfl, z.sql, r⟩
  | @ol u _ _ _ _ h r =>
    cases u with
    | sh => exact ⟨_, _, rfl, SqL.of h, r.shA.1⟩
    | _ => cases ht
theorem cSlL {e : Expr} {lo hi : Option Expr} {t : T} {f : EF} {fl fh : OF} {p2 pos : Pos} (ht : seqT t = true) (he : PE X e (tP X.K Γ t f)) (hl : PO X lo (oP X.K Γ fl)) (hh : PO X hi (oP X.K Γ fh)) : PE X (.Subscript e (.Slice lo hi none p2) pos) (tC X.K Γ (.ol .sh) (xSlL f fl fh)) :=
  (pe_slice sl_list he hl hh).imp fun σ H Q ⟨δ, Z, F, d, ok, e, k⟩ => by
  obtain ⟨dx, e1, e2⟩ := Option.bind_eq_some_iff.mp e
  split at e2
  · rename_i ds
    obtain ⟨l, e3, e4⟩ := Option.bind_eq_some_iff.mp e2
    obtain ⟨h, e5, e6⟩ := Option.bind_eq_some_iff.mp e4
    cases e6
    refine ⟨δ, Z, F, .list ds, ok, e1, fun v H1 Z1 g1 s1 r1 => ⟨δ, Z1, F, l, ok.ext s1, e3, fun H2 Z2 s2 => ⟨δ, Z2, F, h, (ok.ext s1).ext s2, e5, fun H3 Z3 s3 => ?_⟩⟩⟩
    have s13 := s1.trans (s2.trans s3)
    obtain ⟨p, xs, rfl, hq, sa⟩ := sl_of ht (r1.ext (s2.trans s3))
    refine ⟨p, xs, rfl, hq, fun q hp => ?_⟩
    refine k _ _ Z3 [q] (s13.trans (Ext.new hp)) (.ol upd_same ((sha_cut l h sa).ext (Ext.new hp)).repA) (by simp) fun a ha => ?_
    have ea : a = q := by simpa using ha
    subst ea
    exact ⟨Same.free s13.same hp, fun hz => (ok.ext s13).zs a hz hp⟩
  · cases e2
theorem cCatL {a b : Expr} {fa fb : EF} {pos : Pos} (ha : PE X a (tP X.K Γ (.ol .sh) fa)) (hb : PE X b (tP X.K Γ (.ol .sh) fb)) : PE X (.BinOp a .Add b pos) (tC X.K Γ (.ol .sh) (x2 dCatL fa fb)) := (pe_op op_cat ha hb).imp fun σ H Q ⟨δ, Z, F, d, ok, e, k⟩ => by
  obtain ⟨x, e1, e⟩ := Option.bind_eq_some_iff.mp e
  obtain ⟨y, e2, e⟩ := Option.bind_eq_some_iff.mp e
  unfold dCatL at e
  split at e
  · rename_i as bs
    split at e
    · rename_i hz
      cases e
      refine ⟨δ, Z, F, _, ok, e1, fun v H1 Z1 g s1 r1 => ⟨δ, Z1, F, _, ok.ext s1, e2, fun w H2 Z2 g2 s2 r2 => ?_⟩⟩
      have r1' := r1.ext s2
      have s12 := s1.trans s2
      cases r1' with
      | ol h ra =>
        cases r2 with
        | ol h2 rb =>
          refine ⟨_, _, _, _, rfl, rfl, h, h2, by rw [Rep.len ra, Rep.len rb]; exact hz, fun q hp => ?_⟩
          refine k _ _ Z2 [q] (s12.trans (Ext.new hp)) (.ol upd_same ((ra.shA.1.app rb.shA.1).ext (Ext.new hp)).repA) (by simp) fun a ha => ?_
          have ea : a = q := by simpa using ha
          subst ea
          exact ⟨Same.free s12.same hp, fun hz => (ok.ext s12).zs a hz hp⟩
    · cases e
  · cases e
end
end Pv

set_option linter.all false
/-! Pq: the shapes computed. -/
namespace Pv
open PySem
section
variable {δ : List D} {i j k n : Nat} {d x y : D} {a b f g : EF} {m m' : EM} {r : LF} {q : LM} {c c' : BF}
@[simp] theorem xV_e : xV i δ = δ[i]? := rfl
@[simp] theorem xK_e : xK d δ = some d := rfl
@[simp] theorem x1_e {o : D → Option D} : x1 o a δ = (a δ).bind o := rfl
@[simp] theorem x2_e {o : D → D → Option D} : x2 o a b δ = (a δ).bind fun x => (b δ).bind fun y => o x y := rfl
@[simp] theorem xNil_e : xNil δ = some [] := rfl
@[simp] theorem xCons_e : xCons a r δ = (a δ).bind fun x => (r δ).bind fun xs => some (x :: xs) := rfl
@[simp] theorem xL_e {o : List D → Option D} : xL o r δ = (r δ).bind o := rfl
@[simp] theorem bE_e : bE f δ = (f δ).bind toB := rfl
@[simp] theorem bNot_e : bNot c δ = (c δ).bind fun b => some (!b) := rfl
@[simp] theorem bAnd_e : bAnd c c' δ = (c δ).bind fun b => if b then c' δ else some false := rfl
@[simp] theorem bOr_e : bOr c c' δ = (c δ).bind fun b => if b then some true else c' δ := rfl
@[simp] theorem xAnd_e : xAnd a b δ = (a δ).bind fun x => (toB x).bind fun k => if k then b δ else some (.bool false) := rfl
@[simp] theorem xOr_e : xOr a b δ = (a δ).bind fun x => (toB x).bind fun k => if k then some (.bool true) else b δ := rfl
@[simp] theorem xNot_e : xNot a δ = (a δ).bind fun x => (toB x).bind fun k => some (.bool (!k)) := rfl
@[simp] theorem toB_e {b : Bool} : toB (.bool b) = some b := rfl
@[simp] theorem xCall_e {h : List D → Option (D × List D)} : xCall h r δ = (r δ).bind fun ds => (h ds).map (·.1) := rfl
@[simp] theorem xRo_e {pm : List Nat} : xRo pm r δ = (r δ).map (ro pm) := rfl
@[simp] theorem ro_nil {α : Type} {xs : List α} : ro [] xs = [] := rfl
theorem ro_cons {α : Type} {xs : List α} {i : Nat} {pm : List Nat} {a : α} (h : xs[i]? = some a) : ro (i :: pm) xs = a :: ro pm xs := by
  unfold ro
  rw [List.filterMap_cons, h]
@[simp] theorem mOf_e : mOf f δ = (f δ).map (·, δ) := rfl
@[simp] theorem xMov_e : xMov i δ = (δ[i]?).map (·, δ) := rfl
@[simp] theorem xmNil_e : xmNil δ = some ([], δ) := rfl
@[simp] theorem xmCons_e : xmCons m q δ = (m δ).bind fun p => (q p.2).bind fun s => some (p.1 :: s.1, s.2) := rfl
@[simp] theorem xmIoL_e : xmIoL i q δ = (q δ).bind fun s => (s.2[i]?).map fun d => (d :: s.1, s.2) := rfl
@[simp] theorem xLM_e {o : List D → Option D} : xLM o q δ = (q δ).bind fun p => (o p.1).map (·, p.2) := rfl
@[simp] theorem x2M_e {o : D → D → Option D} : x2M o m m' δ = (m δ).bind fun p => (m' p.2).bind fun s => (o p.1 s.1).map (·, s.2) := rfl
@[simp] theorem xCallM_e {gb : List (Option Nat)} {h : List D → Option (D × List D)} : xCallM gb h q δ = (q δ).bind fun p => (h p.1).map fun s => (s.1, giveD gb s.2 p.2) := rfl
@[simp] theorem giveD_some {gb : List (Option Nat)} {ds : List D} : giveD (some i :: gb) (d :: ds) δ = giveD gb ds (δ.set i d) := rfl
@[simp] theorem giveD_none {gb : List (Option Nat)} {ds : List D} : giveD (none :: gb) (d :: ds) δ = giveD gb ds δ := rfl
@[simp] theorem giveD_nil {ds : List D} : giveD [] ds δ = δ := by cases ds <;> rfl
@[simp] theorem bME_e : bME m δ = (m δ).bind fun p => (toB p.1).map (·, p.2) := rfl
@[simp] theorem bMOf_e : bMOf c δ = (c δ).map (·, δ) := rfl
@[simp] theorem bYes_e : bYes δ = some true := rfl
@[simp] theorem sNil_e : sNil δ = some (.nx δ) := rfl
@[simp] theorem sNo_e : sNo δ = none := rfl
@[simp] theorem sSet_e : sSet i f δ = (f δ).bind fun d => some (.nx (δ.set i d)) := rfl
@[simp] theorem sSetM_e : sSetM i m δ = (m δ).bind fun p => some (.nx (p.2.set i p.1)) := rfl
@[simp] theorem sDrop_e : sDrop m δ = (m δ).bind fun p => some (.nx p.2) := rfl
@[simp] theorem sRet_e : sRet f δ = (f δ).bind fun d => some (.rt d δ) := rfl
@[simp] theorem sRetM_e : sRetM m δ = (m δ).bind fun p => some (.rt p.1 p.2) := rfl
@[simp] theorem sIf_e {s t : SF} : sIf c s t δ = (c δ).bind fun b => if b then s δ else t δ := rfl
@[simp] theorem sIfM_e {c : BM} {s t : SF} : sIfM c s t δ = (c δ).bind fun p => if p.1 then s p.2 else t p.2 := rfl
theorem sSeq_nx {s t : SF} {δ' : List D} (h : s δ = some (.nx δ')) : sSeq s t δ = t δ' := by unfold sSeq; rw [h]; rfl
theorem sSeq_rt {s t : SF} {δ' : List D} {d : D} (h : s δ = some (.rt d δ')) : sSeq s t δ = some (.rt d δ') := by unfold sSeq; rw [h]; rfl
@[simp] theorem sSeq_e {s t : SF} : sSeq s t δ = (s δ).bind fun o => match o with | .nx δ' => t δ' | o => some o := rfl
@[simp] theorem fnF_e {nl : Nat} {fo : Bool} {h : SF} : fnF nl fo h δ = (h (δ ++ List.replicate nl .none)).bind (outF δ.length fo) := rfl
@[simp] theorem outF_rt {fo : Bool} : outF n fo (.rt d δ) = some (d, δ.take n) := rfl
@[simp] theorem gSet_e : gSet i d δ = some (δ.set i d) := rfl
@[simp] theorem gTupD_e {is : List Nat} {ds : List D} : gTupD is (.tuple ds) δ = gSets is ds δ := rfl
@[simp] theorem gSets_nil : gSets [] [] δ = some δ := rfl
@[simp] theorem gSets_cons {is : List Nat} {ds : List D} : gSets (i :: is) (d :: ds) δ = gSets is ds (δ.set i d) := rfl
@[simp] theorem sFor_e {src : LF} {tg : D → List D → Option (List D)} {b : SF} : sFor src tg b δ = (src δ).bind fun ds => forL tg b ds δ := rfl
@[simp] theorem sUnp_e {tg : D → List D → Option (List D)} : sUnp f tg δ = (f δ).bind fun d => (tg d δ).bind fun δ1 => some (.nx δ1) := rfl
@[simp] theorem xCmp_e {src : LF} {tg : D → List D → Option (List D)} : xCmp src tg c f δ = (src δ).bind fun ds => if ds.length ≤ sizeLine then (cmpP tg c f δ ds).map .list else none := rfl
@[simp] theorem xCmpM_e {src : LM} {tg : D → List D → Option (List D)} {c : BM} : xCmpM src tg c m δ = (src δ).bind fun p => if p.1.length ≤ sizeLine then (cmpM tg c m p.1 p.2).map fun r => (.list r.1, r.2) else none := rfl
@[simp] theorem lmOf_e {src : LF} : lmOf src δ = (src δ).map (·, δ) := rfl
@[simp] theorem lOf_e {o : List D → Option (List D)} : lOf o r δ = (r δ).bind o := rfl
@[simp] theorem lOfM_e {o : List D → Option (List D)} : lOfM o q δ = (q δ).bind fun p => (o p.1).map (·, p.2) := rfl
@[simp] theorem lSeq_e : lSeq f δ = (f δ).bind asSeq := rfl
@[simp] theorem lIt_e : lIt f δ = (f δ).bind asIt := rfl
@[simp] theorem asSeq_t {ds : List D} : asSeq (.tuple ds) = some ds := rfl
@[simp] theorem asSeq_l {ds : List D} : asSeq (.list ds) = some ds := rfl
@[simp] theorem xIf_e : xIf c a b δ = (c δ).bind fun k => if k then a δ else b δ := rfl
end
section
variable {i j : Int} {x y : D} {ds : List D}
@[simp] theorem dAdd_e : dAdd (.int i) (.int j) = some (.int (i + j)) := rfl
@[simp] theorem dSub_e : dSub (.int i) (.int j) = some (.int (i - j)) := rfl
@[simp] theorem dNeg_e : dNeg (.int i) = some (.int (-i)) := rfl
@[simp] theorem dLt_e : dLt (.int i) (.int j) = some (.bool (decide (i < j))) := rfl
@[simp] theorem dLe_e : dLe (.int i) (.int j) = some (.bool (decide (i ≤ j))) := rfl
@[simp] theorem dGt_e : dGt (.int i) (.int j) = some (.bool (decide (j < i))) := rfl
@[simp] theorem dGe_e : dGe (.int i) (.int j) = some (.bool (decide (j ≤ i))) := rfl
theorem dMul_e (h : mulOk i j = true) : dMul (.int i) (.int j) = some (.int (i * j)) := by show (if mulOk i j then some (PyData.int (i * j)) else none) = _; rw [if_pos h]
theorem dMd_e (h : 0 < j) : dMd (.int i) (.int j) = some (.int (i % j)) := by show (if 0 < j then some (PyData.int (i % j)) else none) = _; rw [if_pos h]
theorem dFd_e (h : 0 < j) (h2 : j.natAbs.log2 < 9000) : dFd (.int i) (.int j) = some (.int (i / j)) := by show (if 0 < j ∧ j.natAbs.log2 < 9000 then some (PyData.int (i / j)) else none) = _; rw [if_pos ⟨h, h2⟩]
@[simp] theorem eqv_int : PyData.eqv (.int i) (.int j) = (i == j) := by rw [PyData.eqv]
@[simp] theorem dEq_e : dEq (.int i) (.int j) = some (.bool (i == j)) := by
  show (if SeqAt.shaped (PyData.int i) && SeqAt.shaped (PyData.int j) then some (PyData.bool (PyData.eqv (.int i) (.int j))) else none) = _
  rw [eqv_int]; rfl
@[simp] theorem dNe_e : dNe (.int i) (.int j) = some (.bool (!(i == j))) := by
  show (if SeqAt.shaped (PyData.int i) && SeqAt.shaped (PyData.int j) then some (PyData.bool (!PyData.eqv (.int i) (.int j))) else none) = _
  rw [eqv_int]; rfl
@[simp] theorem dIx_t : dIx (.tuple ds) (.int j) = L2.atI ds j := rfl
@[simp] theorem dIx_l : dIx (.list ds) (.int j) = L2.atI ds j := rfl
@[simp] theorem oLen_l : oLen [.list ds] = some (.int ds.length) := rfl
@[simp] theorem oLen_t : oLen [.tuple ds] = some (.int ds.length) := rfl
@[simp] theorem oInt_i : oInt [.int i] = some (.int i) := rfl
@[simp] theorem oInt_b {b : Bool} : oInt [.bool b] = some (.int (if b then 1 else 0)) := rfl
@[simp] theorem oAbs_i : oAbs [.int i] = some (.int (if i < 0 then -i else i)) := rfl
@[simp] theorem oTup_l : oTup [.list ds] = some (.tuple ds) := rfl
@[simp] theorem oTup_t : oTup [.tuple ds] = some (.tuple ds) := rfl
@[simp] theorem oLst_l : oLst [.list ds] = some (.list ds) := rfl
@[simp] theorem oLst_t : oLst [.tuple ds] = some (.list ds) := rfl
@[simp] theorem oRev_l : oRev (.list ds) = some (.list ds.reverse) := rfl
@[simp] theorem isi_i {T : String} : dIsi T (.int i) = some (.bool (isiT "int" T)) := rfl
@[simp] theorem isi_t {T : String} : dIsi T (.tuple ds) = some (.bool (isiT "tuple" T)) := rfl
@[simp] theorem isi_l {T : String} : dIsi T (.list ds) = some (.bool (isiT "list" T)) := rfl
@[simp] theorem isi_b {T : String} {b : Bool} : dIsi T (.bool b) = some (.bool (isiT "bool" T)) := rfl
theorem atI_nat {α : Type} {l : List α} {n : Nat} (h : n < l.length) : L2.atI l (n : Int) = l[n]? := by
  unfold L2.atI
  have : L2.ixN l.length (n : Int) = some n := by
    unfold L2.ixN
    simp [h]
  rw [this]
  rfl
theorem mkTup_e (h : ds.length ≤ sizeLine) : mkTup ds = some (.tuple ds) := if_pos h
theorem mkLst_e (h : ds.length ≤ sizeLine) : mkLst ds = some (.list ds) := if_pos h
end
end Pv

set_option Elab.async false
set_option linter.all false
set_option maxRecDepth 100000
/-! unsewn_k36_whole_slips_there_and_back: the defs as functions of data (printed by pvgen.py) -/
namespace LawK36
open PySem PySem.Spec PyProof.Rows L2 Pv
def g__is_name : SF :=
  (sRet (xAnd (x1 (dIsi "str") (xV 0)) (xAnd (x2 dGt (xL oLen (xCons (xV 0) xNil)) (xK (.int 0))) (x2 dNotInS (xK (.str " ")) (xV 0)))))
def f__is_name : List D → Option (D × List D) := fnF 0 false g__is_name
def S__is_name : FS := ⟨[.sh], [.no], .sh, f__is_name⟩
def g__are_lines : SF :=
  (sSeq (sIf (bOr (bNot (bE (x1 (dIsi "tuple") (xV 0)))) (bE (x2 dEq (xL oLen (xCons (xV 0) xNil)) (xK (.int 0))))) (sRet (xK (.bool false))) sNil) (sSeq (sFor (lSeq (xV 0)) (gSet 1) (sIf (bNot (bE (x1 (dIsi "str") (xV 1)))) (sRet (xK (.bool false))) sNil)) (sRet (xK (.bool true)))))
def f__are_lines : List D → Option (D × List D) := fnF 1 false g__are_lines
def S__are_lines : FS := ⟨[.sh], [.no], .sh, f__are_lines⟩
def g__law_num : SF :=
  (sSeq (sSet 3 (xK (.int 0))) (sSeq (sIf (bE (x2 dGt (xL oLen (xCons (xV 0) xNil)) (xK (.int 0)))) (sSet 3 (x2 dIx (xV 0) (x2 dMd (xL oInt (xCons (xV 1) xNil)) (xL oLen (xCons (xV 0) xNil))))) sNil) (sRet (x2 dMd (x2 dMd (xL oInt (xCons (x2 dAdd (x2 dAdd (x2 dMul (xL oInt (xCons (xV 3) xNil)) (xK (.int 7919))) (x2 dMul (xK (.int 29)) (xV 1))) (xK (.int 5))) xNil)) (xK (.int 1000003))) (xV 2)))))
def f__law_num : List D → Option (D × List D) := fnF 1 false g__law_num
def S__law_num : FS := ⟨[.sh, .sh, .sh], [.no, .no, .no], .sh, f__law_num⟩
def g__law_called : SF :=
  (sSeq (sSet 1 (xK (.list []))) (sSeq (sFor (lSeq (xV 0)) (gSet 2) (sFor (lSeq (xV 2)) (gSet 3) (sIf (bE (x2 dNotIn (xV 3) (xV 1))) (sDrop (xApp 1 (mOf (xV 3)))) sNil))) (sRet (xV 1))))
def f__law_called : List D → Option (D × List D) := fnF 3 false g__law_called
def S__law_called : FS := ⟨[.sh], [.no], .sh, f__law_called⟩
def g__law_parts : SF :=
  (sSeq (sSet 1 (xL mkLst (xCons (xK (.str "")) xNil))) (sSeq (sFor (lStr (xV 0)) (gSet 2) (sIf (bE (x2 dEq (xV 2) (xK (.str " ")))) (sDrop (xApp 1 (mOf (xK (.str ""))))) (sSetIx 1 (mOf (x2 dAdd (x2 dIx (xV 1) (x1 dNeg (xK (.int 1)))) (xV 2))) (x1 dNeg (xK (.int 1)))))) (sRet (xV 1))))
def f__law_parts : List D → Option (D × List D) := fnF 2 false g__law_parts
def S__law_parts : FS := ⟨[.sh], [.no], .sh, f__law_parts⟩
def g__law_bad_slips : SF :=
  (sSeq (sSet 0 (xL mkLst (xCons (xL mkTup (xCons (xK (.str "a")) (xCons (xK (.str "")) xNil))) (xCons (xL mkTup (xCons (xK (.str "")) (xCons (xK (.str "b")) xNil))) (xCons (xL mkTup (xCons (xK (.str "a b")) (xCons (xK (.str "c")) xNil))) (xCons (xL mkTup (xCons (xK (.str "a")) (xCons (xK (.str " ")) xNil))) (xCons (xL mkTup (xCons (xK (.str "a")) (xCons (xK (.str "c ")) xNil))) (xCons (xL mkTup (xCons (xK (.str " a")) (xCons (xK (.str "c")) xNil))) (xCons (xL mkTup (xCons (xK (.str "a")) xNil)) (xCons (xL mkTup (xCons (xK (.str "a")) (xCons (xK (.str "b")) (xCons (xK (.str "c")) xNil)))) (xCons (xL mkTup xNil) xNil))))))))))) (sRet (x2 dCatL (xV 0) (xL mkLst (xCons (xL mkLst (xCons (xK (.str "a")) (xCons (xK (.str "b")) xNil))) (xCons (xK (.str "ab")) (xCons (xL mkTup (xCons (xK (.str "a")) (xCons (xK (.int 1)) xNil))) (xCons (xL mkTup (xCons (xK (.bool true)) (xCons (xK (.str "b")) xNil))) (xCons (xL mkTup (xCons (xK (.str "a")) (xCons (xK .none) xNil))) (xCons (xL mkTup (xCons (xL mkTup (xCons (xK (.str "a")) xNil)) (xCons (xK (.str "b")) xNil))) (xCons (xK .none) (xCons (xK (.int 7)) (xCons (xL mkTup (xCons (xK (.str "a")) (xCons (xL mkLst (xCons (xK (.str "b")) xNil)) xNil))) xNil)))))))))))))
def f__law_bad_slips : List D → Option (D × List D) := fnF 1 false g__law_bad_slips
def S__law_bad_slips : FS := ⟨[], [], .sh, f__law_bad_slips⟩
def g_is_slip : SF :=
  (sSeq (sIf (bOr (bNot (bE (x1 (dIsi "tuple") (xV 0)))) (bE (x2 dNe (xL oLen (xCons (xV 0) xNil)) (xK (.int 2))))) (sRet (xK (.bool false))) sNil) (sRet (xAnd (xCall f__is_name (xCons (x2 dIx (xV 0) (xK (.int 0))) xNil)) (xCall f__is_name (xCons (x2 dIx (xV 0) (xK (.int 1))) xNil)))))
def f_is_slip : List D → Option (D × List D) := fnF 0 false g_is_slip
def S_is_slip : FS := ⟨[.sh], [.no], .sh, f_is_slip⟩
def g__are_names : SF :=
  (sSeq (sIf (bNot (bE (x1 (dIsi "tuple") (xV 0)))) (sRet (xK (.bool false))) sNil) (sSeq (sSet 1 xDict0) (sSeq (sFor (lSeq (xV 0)) (gSet 2) (sSeq (sIf (bOr (bNot (bE (xCall f__is_name (xCons (xV 2) xNil)))) (bE (x2 dDIn (xV 2) (xV 1)))) (sRet (xK (.bool false))) sNil) (sPutK 1 (mOf (xK (.bool true))) (xV 2)))) (sRet (xK (.bool true))))))
def f__are_names : List D → Option (D × List D) := fnF 2 false g__are_names
def S__are_names : FS := ⟨[.sh], [.no], .sh, f__are_names⟩
def g_read_slips : SF :=
  (sSeq (sIf (bNot (bE (xCall f__are_lines (xCons (xV 0) xNil)))) sNo sNil) (sSeq (sSet 1 (xK (.list []))) (sSeq (sFor (lEnum (xCons (xV 0) xNil)) (gTupD [2, 3]) (sSeq (sSet 4 (x2 dSplit (xV 3) (xK (.str " ")))) (sSeq (sIf (bE (x2 dNe (xL oLen (xCons (xV 4) xNil)) (xK (.int 2)))) sNo sNil) (sSeq (sIf (bE (x2 dIn (xK (.str "")) (xV 4))) sNo sNil) (sDrop (xApp 1 (mOf (xL mkTup (xCons (x2 dIx (xV 4) (xK (.int 0))) (xCons (x2 dIx (xV 4) (xK (.int 1))) xNil)))))))))) (sRet (xL oTup (xCons (xV 1) xNil))))))
def f_read_slips : List D → Option (D × List D) := fnF 4 false g_read_slips
def S_read_slips : FS := ⟨[.sh], [.no], .sh, f_read_slips⟩
def g__law_name : SF :=
  (sSeq (sSet 2 (xK (.str "ba>~:0A"))) (sSeq (sSet 3 (x2 dAdd (xK (.int 1)) (xCall f__law_num (xCons (xV 0) (xCons (xV 1) (xCons (xK (.int 3)) xNil)))))) (sRet (x2 dJoin (xK (.str "")) (xCmp (lOf rng1 (xCons (xV 3) xNil)) (gSet 4) bYes (x2 dIxS (xV 2) (xCall f__law_num (xCons (xV 0) (xCons (x2 dAdd (x2 dAdd (xV 1) (xK (.int 1))) (xV 4)) (xCons (xK (.int 7)) xNil))))))))))
def f__law_name : List D → Option (D × List D) := fnF 3 false g__law_name
def S__law_name : FS := ⟨[.sh, .sh], [.no, .no], .sh, f__law_name⟩
def g__law_read : SF :=
  (sSeq (sSet 1 (xK (.list []))) (sSeq (sFor (lOf rng1 (xCons (xL oLen (xCons (xV 0) xNil)) xNil)) (gSet 2) (sSeq (sSet 3 (xCall f__law_parts (xCons (x2 dIx (xV 0) (xV 2)) xNil))) (sSeq (sIf (bE (x2 dNe (xL oLen (xCons (xV 3) xNil)) (xK (.int 2)))) (sRet (xL mkTup (xCons (xK (.str "bad")) (xCons (xV 2) (xCons (x1 dNeg (xK (.int 1))) xNil))))) sNil) (sSeq (sIf (bE (x2 dEq (x2 dIx (xV 3) (xK (.int 0))) (xK (.str "")))) (sRet (xL mkTup (xCons (xK (.str "bad")) (xCons (xV 2) (xCons (xK (.int 0)) xNil))))) sNil) (sSeq (sIf (bE (x2 dEq (x2 dIx (xV 3) (xK (.int 1))) (xK (.str "")))) (sRet (xL mkTup (xCons (xK (.str "bad")) (xCons (xV 2) (xCons (xK (.int 1)) xNil))))) sNil) (sDrop (xApp 1 (mOf (xL mkTup (xCons (x2 dIx (xV 3) (xK (.int 0))) (xCons (x2 dIx (xV 3) (xK (.int 1))) xNil))))))))))) (sRet (xL mkTup (xCons (xK (.str "good")) (xCons (xL oTup (xCons (xV 1) xNil)) xNil))))))
def f__law_read : List D → Option (D × List D) := fnF 3 false g__law_read
def S__law_read : FS := ⟨[.sh], [.no], .sh, f__law_read⟩
def g_slips_of : SF :=
  (sSeq (sUnp (xV 1) (gTupD [2, 3])) (sSeq (sIf (bOr (bNot (bE (xCall f__are_names (xCons (xV 0) xNil)))) (bE (x2 dNe (xL oLen (xCons (xV 0) xNil)) (xV 2)))) sNo sNil) (sRet (xL oTup (xCons (xCmp (lSeq (xV 3)) (gTupD [4, 5]) bYes (xL mkTup (xCons (x2 dIx (xV 0) (xV 4)) (xCons (x2 dIx (xV 0) (xV 5)) xNil)))) xNil)))))
def f_slips_of : List D → Option (D × List D) := fnF 4 false g_slips_of
def S_slips_of : FS := ⟨[.sh, .sh], [.no, .no], .sh, f_slips_of⟩
def rg_slips_of_NotUsable : RF :=
  (rfCons (sUnp (xV 1) (gTupD [2, 3])) (rfIf (bOr (bNot (bE (xCall f__are_names (xCons (xV 0) xNil)))) (bE (x2 dNe (xL oLen (xCons (xV 0) xNil)) (xV 2)))) (rfR "word" "at" (xCons (xK (.str "names")) (xCons (x1 dNeg (xK (.int 1))) xNil))) rfNo))
def r_slips_of_NotUsable : List D → Option XD := fnR 4 rg_slips_of_NotUsable
def R_slips_of_NotUsable : RS := ⟨[.sh, .sh], r_slips_of_NotUsable⟩
def g__are_slips : SF :=
  (sSeq (sIf (bOr (bNot (bE (x1 (dIsi "tuple") (xV 0)))) (bE (x2 dEq (xL oLen (xCons (xV 0) xNil)) (xK (.int 0))))) (sRet (xK (.bool false))) sNil) (sSeq (sFor (lSeq (xV 0)) (gSet 1) (sIf (bNot (bE (xCall f_is_slip (xCons (xV 1) xNil)))) (sRet (xK (.bool false))) sNil)) (sRet (xK (.bool true)))))
def f__are_slips : List D → Option (D × List D) := fnF 1 false g__are_slips
def S__are_slips : FS := ⟨[.sh], [.no], .sh, f__are_slips⟩
def rg_read_slips_InvalidText : RF :=
  (rfCons (sIf (bNot (bE (xCall f__are_lines (xCons (xV 0) xNil)))) sNo sNil) (rfCons (sSet 1 (xK (.list []))) (rfFor (lEnum (xCons (xV 0) xNil)) (gTupD [2, 3]) (sSeq (sSet 4 (x2 dSplit (xV 3) (xK (.str " ")))) (sSeq (sIf (bE (x2 dNe (xL oLen (xCons (xV 4) xNil)) (xK (.int 2)))) sNo sNil) (sSeq (sIf (bE (x2 dIn (xK (.str "")) (xV 4))) sNo sNil) (sDrop (xApp 1 (mOf (xL mkTup (xCons (x2 dIx (xV 4) (xK (.int 0))) (xCons (x2 dIx (xV 4) (xK (.int 1))) xNil))))))))) (rfCons (sSet 4 (x2 dSplit (xV 3) (xK (.str " ")))) (rfOr (rfIf (bE (x2 dNe (xL oLen (xCons (xV 4) xNil)) (xK (.int 2)))) (rfR "line" "field" (xCons (xV 2) (xCons (x1 dNeg (xK (.int 1))) xNil))) rfNo) (rfCons (sIf (bE (x2 dNe (xL oLen (xCons (xV 4) xNil)) (xK (.int 2)))) sNo sNil) (rfIf (bE (x2 dIn (xK (.str "")) (xV 4))) (rfR "line" "field" (xCons (xV 2) (xCons (x2 dIndex (xV 4) (xK (.str ""))) xNil))) rfNo)))))))
def r_read_slips_InvalidText : List D → Option XD := fnR 4 rg_read_slips_InvalidText
def R_read_slips_InvalidText : RS := ⟨[.sh], r_read_slips_InvalidText⟩
def rg_read_slips_NotUsable : RF :=
  (rfIf (bNot (bE (xCall f__are_lines (xCons (xV 0) xNil)))) (rfR "word" "at" (xCons (xK (.str "lines")) (xCons (x1 dNeg (xK (.int 1))) xNil))) rfNo)
def r_read_slips_NotUsable : List D → Option XD := fnR 4 rg_read_slips_NotUsable
def R_read_slips_NotUsable : RS := ⟨[.sh], r_read_slips_NotUsable⟩
def g__law_pairs : SF :=
  (sSeq (sSet 1 (xCmp (lOf rng1 (xCons (x2 dAdd (xK (.int 1)) (xCall f__law_num (xCons (xV 0) (xCons (xK (.int 0)) (xCons (xK (.int 5)) xNil))))) xNil)) (gSet 2) bYes (xCall f__law_name (xCons (xV 0) (xCons (x2 dAdd (xK (.int 5)) (x2 dMul (xK (.int 4)) (xV 2))) xNil))))) (sSeq (sSet 3 (x2 dAdd (xK (.int 1)) (xCall f__law_num (xCons (xV 0) (xCons (xK (.int 2)) (xCons (xK (.int 8)) xNil)))))) (sSeq (sIf (bE (x2 dEq (xCall f__law_num (xCons (xV 0) (xCons (xK (.int 1)) (xCons (xK (.int 8)) xNil)))) (xK (.int 1)))) (sSeq (sSet 1 (xCmp (lOf rng1 (xCons (x2 dAdd (xK (.int 3)) (xCall f__law_num (xCons (xV 0) (xCons (xK (.int 3)) (xCons (xK (.int 11)) xNil))))) xNil)) (gSet 2) bYes (x2 dAdd (xK (.str "n")) (xL oStr (xCons (xV 2) xNil))))) (sSeq (sSet 3 (x2 dAdd (xK (.int 41)) (xCall f__law_num (xCons (xV 0) (xCons (xK (.int 4)) (xCons (xK (.int 24)) xNil)))))) sNil)) sNil) (sSeq (sSet 4 (xK (.list []))) (sSeq (sFor (lOf rng1 (xCons (xV 3) xNil)) (gSet 2) (sSeq (sSet 5 (x2 dIx (xV 1) (xCall f__law_num (xCons (xV 0) (xCons (x2 dAdd (xK (.int 31)) (x2 dMul (xK (.int 2)) (xV 2))) (xCons (xL oLen (xCons (xV 1) xNil)) xNil)))))) (sDrop (xApp 4 (mOf (xL mkTup (xCons (xV 5) (xCons (x2 dIx (xV 1) (xCall f__law_num (xCons (xV 0) (xCons (x2 dAdd (xK (.int 32)) (x2 dMul (xK (.int 2)) (xV 2))) (xCons (xL oLen (xCons (xV 1) xNil)) xNil))))) xNil)))))))) (sRet (xV 4)))))))
def f__law_pairs : List D → Option (D × List D) := fnF 5 false g__law_pairs
def S__law_pairs : FS := ⟨[.sh], [.no], .sh, f__law_pairs⟩
def g_heap_of : SF :=
  (sSeq (sIf (bNot (bE (xCall f__are_slips (xCons (xV 0) xNil)))) sNo sNil) (sSeq (sSet 1 xDict0) (sSeq (sSet 2 (xK (.list []))) (sSeq (sFor (lSeq (xV 0)) (gTupD [3, 4]) (sSeq (sIf (bE (x2 dDNotIn (xV 3) (xV 1))) (sPutK 1 (mOf (xL oLenD (xCons (xV 1) xNil))) (xV 3)) sNil) (sSeq (sIf (bE (x2 dDNotIn (xV 4) (xV 1))) (sPutK 1 (mOf (xL oLenD (xCons (xV 1) xNil))) (xV 4)) sNil) (sDrop (xApp 2 (mOf (xL mkTup (xCons (x2 dDGet (xV 1) (xV 3)) (xCons (x2 dDGet (xV 1) (xV 4)) xNil))))))))) (sRet (xL mkTup (xCons (xL oTup (xCons (xL oLstD (xCons (xV 1) xNil)) xNil)) (xCons (xL mkTup (xCons (xL oLenD (xCons (xV 1) xNil)) (xCons (xL oTup (xCons (xV 2) xNil)) xNil))) xNil))))))))
def f_heap_of : List D → Option (D × List D) := fnF 4 false g_heap_of
def S_heap_of : FS := ⟨[.sh], [.no], .sh, f_heap_of⟩
def rg_heap_of_NotUsable : RF :=
  (rfIf (bNot (bE (xCall f__are_slips (xCons (xV 0) xNil)))) (rfR "word" "at" (xCons (xK (.str "slips")) (xCons (x1 dNeg (xK (.int 1))) xNil))) rfNo)
def r_heap_of_NotUsable : List D → Option XD := fnR 4 rg_heap_of_NotUsable
def R_heap_of_NotUsable : RS := ⟨[.sh], r_heap_of_NotUsable⟩
def g_slip_lines : SF :=
  (sSeq (sIf (bNot (bE (xCall f__are_slips (xCons (xV 0) xNil)))) sNo sNil) (sRet (xL oTup (xCons (xCmp (lSeq (xV 0)) (gTupD [1, 2]) bYes (xFs [(x1 dFmt (xV 1)), (xK (.str " ")), (x1 dFmt (xV 2))])) xNil))))
def f_slip_lines : List D → Option (D × List D) := fnF 2 false g_slip_lines
def S_slip_lines : FS := ⟨[.sh], [.no], .sh, f_slip_lines⟩
def rg_slip_lines_NotUsable : RF :=
  (rfIf (bNot (bE (xCall f__are_slips (xCons (xV 0) xNil)))) (rfR "word" "at" (xCons (xK (.str "slips")) (xCons (x1 dNeg (xK (.int 1))) xNil))) rfNo)
def r_slip_lines_NotUsable : List D → Option XD := fnR 2 rg_slip_lines_NotUsable
def R_slip_lines_NotUsable : RS := ⟨[.sh], r_slip_lines_NotUsable⟩
def g__law_same (rc : List D → Option (D × List D)) : SF :=
  (sSeq (sIf (bE (x2 dIsN (xV 1) (xK .none))) (sRet (x2 dIsN (xV 0) (xK .none))) sNil) (sSeq (sIf (bE (x2 dIsBA (xV 1) (xK (.bool true)))) (sRet (x2 dIsBA (xV 0) (xK (.bool true)))) sNil) (sSeq (sIf (bE (x2 dIsBA (xV 1) (xK (.bool false)))) (sRet (x2 dIsBA (xV 0) (xK (.bool false)))) sNil) (sSeq (sIf (bE (x1 (dIsi "str") (xV 1))) (sRet (xAnd (x1 (dIsi "str") (xV 0)) (x2 dEq (xV 0) (xV 1)))) sNil) (sSeq (sIf (bE (x1 (dIsi "tuple") (xV 1))) (sSeq (sIf (bOr (bNot (bE (x1 (dIsi "tuple") (xV 0)))) (bE (x2 dNe (xL oLen (xCons (xV 0) xNil)) (xL oLen (xCons (xV 1) xNil))))) (sRet (xK (.bool false))) sNil) (sSeq (sFor (lOf rng1 (xCons (xL oLen (xCons (xV 1) xNil)) xNil)) (gSet 2) (sIf (bNot (bE (xCall rc (xCons (x2 dIx (xV 0) (xV 2)) (xCons (x2 dIx (xV 1) (xV 2)) xNil))))) (sRet (xK (.bool false))) sNil)) (sRet (xK (.bool true))))) sNil) (sRet (xAnd (x1 (dIsi "int") (xV 0)) (xAnd (xNot (x1 (dIsi "bool") (xV 0))) (x2 dEq (xV 0) (xV 1))))))))))
def f__law_same : Nat → List D → Option (D × List D)
  | 0 => f0
  | k + 1 => fnF 1 false (g__law_same (f__law_same k))
def S__law_same (k : Nat) : FS := ⟨[.sh, .sh], [.no, .no], .sh, f__law_same k⟩
def g__law_refused : SF :=
  (sSeq (sTry 4 (sIf (bE (x2 dEq (xV 0) (xK (.int 0)))) (sDrop (mOf (xCall f_heap_of (xCons (xV 1) xNil)))) (sIf (bE (x2 dEq (xV 0) (xK (.int 1)))) (sDrop (mOf (xCall f_slip_lines (xCons (xV 1) xNil)))) (sIf (bE (x2 dEq (xV 0) (xK (.int 2)))) (sDrop (mOf (xCall f_read_slips (xCons (xV 1) xNil)))) (sDrop (mOf (xCall f_slips_of (xCons (xV 1) (xCons (xV 2) xNil)))))))) (rfIf (bE (x2 dEq (xV 0) (xK (.int 0)))) (rfC r_heap_of_NotUsable (xCons (xV 1) xNil)) (rfIf (bE (x2 dEq (xV 0) (xK (.int 1)))) (rfC r_slip_lines_NotUsable (xCons (xV 1) xNil)) (rfIf (bE (x2 dEq (xV 0) (xK (.int 2)))) (rfC r_read_slips_NotUsable (xCons (xV 1) xNil)) (rfC r_slips_of_NotUsable (xCons (xV 1) (xCons (xV 2) xNil)))))) (sRet (xAnd (xIsE 4 true) (xAnd (xIsE 4 true) (xCall (f__law_same 6) (xCons (xL mkTup (xCons (x1 (dFld "word") (xV 4)) (xCons (x1 (dFld "at") (xV 4)) xNil))) (xCons (xL mkTup (xCons (xV 3) (xCons (x1 dNeg (xK (.int 1))) xNil))) xNil))))))) (sRet (xK (.bool false))))
def f__law_refused : List D → Option (D × List D) := fnF 1 false g__law_refused
def S__law_refused : FS := ⟨[.sh, .sh, .sh, .sh], [.no, .no, .no, .no], .sh, f__law_refused⟩
def g__law_reads : SF :=
  (sSeq (sSet 1 (xCall f__law_read (xCons (xV 0) xNil))) (sSeq (sTry 3 (sSet 2 (xCall f_read_slips (xCons (xL oTup (xCons (xV 0) xNil)) xNil))) (rfC r_read_slips_InvalidText (xCons (xL oTup (xCons (xV 0) xNil)) xNil)) (sSeq (sIf (bOr (bNot (bE (xIsE 3 true))) (bNot (bE (xIsE 3 true)))) (sRet (xK (.bool false))) sNil) (sRet (xAnd (x2 dEq (x2 dIx (xV 1) (xK (.int 0))) (xK (.str "bad"))) (xCall (f__law_same 6) (xCons (xL mkTup (xCons (x1 (dFld "line") (xV 3)) (xCons (x1 (dFld "field") (xV 3)) xNil))) (xCons (xL mkTup (xCons (x2 dIx (xV 1) (xK (.int 1))) (xCons (x2 dIx (xV 1) (xK (.int 2))) xNil))) xNil))))))) (sRet (xAnd (x2 dEq (x2 dIx (xV 1) (xK (.int 0))) (xK (.str "good"))) (xCall (f__law_same 6) (xCons (xV 2) (xCons (x2 dIx (xV 1) (xK (.int 1))) xNil)))))))
def f__law_reads : List D → Option (D × List D) := fnF 3 false g__law_reads
def S__law_reads : FS := ⟨[.sh], [.no], .sh, f__law_reads⟩
def g__law_kinds : SF :=
  (sSeq (sFor (lSeq (xV 0)) (gSet 1) (sIf (bE (x2 dNotBA (xCall f_is_slip (xCons (xV 1) xNil)) (xK (.bool true)))) (sRet (xK (.bool false))) sNil)) (sSeq (sFor (lSeq (xL mkLst (xCons (xL mkTup (xCons (xK (.str "a")) (xCons (xK (.str "b")) xNil))) (xCons (xL mkTup (xCons (xK (.str "~")) (xCons (xK (.str "~")) xNil))) (xCons (xL mkTup (xCons (xK (.str "1")) (xCons (xK (.str ">:'")) xNil))) (xCons (xL mkTup (xCons (xK (.str "aa")) (xCons (xK (.str "a")) xNil))) xNil)))))) (gSet 1) (sIf (bOr (bE (x2 dNotBA (xCall f_is_slip (xRo [0] (xCons (xV 1) xNil))) (xK (.bool true)))) (bNot (bE (xCall (f__law_same 6) (xCons (xCall f_slip_lines (xCons (xL mkTup (xCons (xV 1) xNil)) xNil)) (xCons (xL mkTup (xCons (x2 dAdd (x2 dAdd (x2 dIx (xV 1) (xK (.int 0))) (xK (.str " "))) (x2 dIx (xV 1) (xK (.int 1)))) xNil)) xNil)))))) (sRet (xK (.bool false))) sNil)) (sRet (xK (.bool true)))))
def f__law_kinds : List D → Option (D × List D) := fnF 1 false g__law_kinds
def S__law_kinds : FS := ⟨[.sh], [.no], .sh, f__law_kinds⟩
def g__law_bad : SF :=
  (sSeq (sSet 2 (xCall f__law_bad_slips xNil)) (sSeq (sFor (lSeq (xV 2)) (gSet 3) (sIf (bE (x2 dNotBA (xCall f_is_slip (xCons (xV 3) xNil)) (xK (.bool false)))) (sRet (xK (.bool false))) sNil)) (sSeq (sSet 4 (x2 dIx (xV 2) (xCall f__law_num (xCons (xV 0) (xCons (xK (.int 7)) (xCons (xL oLen (xCons (xV 2) xNil)) xNil)))))) (sSeq (sSet 5 (xCall f__law_num (xCons (xV 0) (xCons (xK (.int 8)) (xCons (x2 dAdd (xL oLen (xCons (xV 1) xNil)) (xK (.int 1))) xNil))))) (sSeq (sSet 6 (xL oLst (xCons (xV 1) xNil))) (sSeq (sSet 7 (xL mkLst (xCons (xL mkTup xNil) (xCons (xV 6) (xCons (xK .none) (xCons (xK (.str "ab")) (xCons (xK (.int 7)) (xCons (xL mkTup (xCons (xK (.str "a")) (xCons (xK (.str "b")) xNil))) (xCons (x2 dIx (xV 1) (xK (.int 0))) (xCons (x2 dPlus (x2 dPlus (xL oTup (xCons (xSlL (xV 1) oNo (oInt1 (xV 5))) xNil)) (xL mkTup (xCons (xV 4) xNil))) (xL oTup (xCons (xSlL (xV 1) (oInt1 (xV 5)) oNo) xNil))) xNil)))))))))) (sSeq (sFor (lSeq (xV 7)) (gSet 8) (sIf (bOr (bNot (bE (xCall f__law_refused (xCons (xK (.int 0)) (xCons (xV 8) (xCons (xK (.int 0)) (xCons (xK (.str "slips")) xNil))))))) (bNot (bE (xCall f__law_refused (xCons (xK (.int 1)) (xCons (xV 8) (xCons (xK (.int 0)) (xCons (xK (.str "slips")) xNil)))))))) (sRet (xK (.bool false))) sNil)) (sRet (x2 dEq (xV 6) (xV 1))))))))))
def f__law_bad : List D → Option (D × List D) := fnF 7 false g__law_bad
def S__law_bad : FS := ⟨[.sh, .sh], [.no, .no], .sh, f__law_bad⟩
def g__law_names : SF :=
  (sSeq (sSet 3 (xL mkLst (xCons (xL oTup (xCons (xSlL (xV 1) oNo (oInt1 (x1 dNeg (xK (.int 1))))) xNil)) (xCons (x2 dPlus (xL oTup (xCons (xV 1) xNil)) (xL mkTup (xCons (xK (.str "z")) xNil))) (xCons (xL oLst (xCons (xV 1) xNil)) (xCons (xK .none) (xCons (x2 dJoin (xK (.str "")) (xV 1)) (xCons (xL mkTup xNil) xNil)))))))) (sSeq (sSet 4 (xCall f__law_num (xCons (xV 0) (xCons (xK (.int 9)) (xCons (xL oLen (xCons (xV 1) xNil)) xNil))))) (sSeq (sFor (lSeq (xL mkLst (xCons (xK (.str "")) (xCons (xK (.str " ")) (xCons (xK (.str "a b")) (xCons (xK (.str "y ")) (xCons (xK (.int 0)) (xCons (xK (.bool true)) (xCons (xK .none) (xCons (xL mkTup (xCons (xK (.str "y")) xNil)) (xCons (x2 dIx (xV 1) (x2 dSub (xV 4) (xK (.int 1)))) xNil))))))))))) (gSet 5) (sDrop (xApp 3 (mOf (x2 dPlus (x2 dPlus (xL oTup (xCons (xSlL (xV 1) oNo (oInt1 (xV 4))) xNil)) (xL mkTup (xCons (xV 5) xNil))) (xL oTup (xCons (xSlL (xV 1) (oInt1 (x2 dAdd (xV 4) (xK (.int 1)))) oNo) xNil))))))) (sSeq (sFor (lSeq (xV 3)) (gSet 6) (sIf (bNot (bE (xCall f__law_refused (xCons (xK (.int 3)) (xCons (xV 6) (xCons (xV 2) (xCons (xK (.str "names")) xNil))))))) (sRet (xK (.bool false))) sNil)) (sRet (xK (.bool true)))))))
def f__law_names : List D → Option (D × List D) := fnF 4 false g__law_names
def S__law_names : FS := ⟨[.sh, .sh, .sh], [.no, .no, .no], .sh, f__law_names⟩
def g__law_rows : SF :=
  (sSeq (sSet 2 (xL oTup (xCons (xCmp (lSeq (xV 1)) (gSet 3) bYes (x2 dAdd (x2 dAdd (x2 dIx (xV 3) (xK (.int 0))) (xK (.str " "))) (x2 dIx (xV 3) (xK (.int 1))))) xNil))) (sSeq (sIf (bOr (bNot (bE (xCall (f__law_same 6) (xCons (xCall f_slip_lines (xCons (xL oTup (xCons (xV 1) xNil)) xNil)) (xCons (xV 2) xNil))))) (bNot (bE (xCall (f__law_same 6) (xCons (xCall f_slip_lines (xRo [0] (xCons (xL oTup (xCons (xV 1) xNil)) xNil))) (xCons (xV 2) xNil)))))) (sRet (xK (.bool false))) sNil) (sSeq (sIf (bOr (bNot (bE (xCall (f__law_same 6) (xCons (xCall f_read_slips (xCons (xV 2) xNil)) (xCons (xL oTup (xCons (xV 1) xNil)) xNil))))) (bNot (bE (xCall (f__law_same 6) (xCons (xCall f_read_slips (xRo [0] (xCons (xV 2) xNil))) (xCons (xL oTup (xCons (xV 1) xNil)) xNil)))))) (sRet (xK (.bool false))) sNil) (sSeq (sSet 4 (xL mkLst (xCons (xK (.str "a b")) (xCons (xK (.str " b")) (xCons (xK (.str "a ")) (xCons (xK (.str " ")) (xCons (xK (.str "")) (xCons (xK (.str "a")) (xCons (xK (.str "a b c")) (xCons (xK (.str "a  b")) (xCons (xK (.str ">~ 0")) (xCons (xK (.str " a b")) (xCons (xK (.str "a b ")) (xCons (xK (.str "  ")) (xCons (xK (.str "b a")) (xCons (xK (.str "~ ~")) xNil)))))))))))))))) (sSeq (sSet 5 (xCmp (lOf rng1 (xCons (x2 dAdd (xK (.int 1)) (xCall f__law_num (xCons (xV 0) (xCons (xK (.int 10)) (xCons (xK (.int 4)) xNil))))) xNil)) (gSet 6) bYes (x2 dIx (xV 4) (xCall f__law_num (xCons (xV 0) (xCons (x2 dAdd (xK (.int 11)) (x2 dMul (xK (.int 3)) (xV 6))) (xCons (xK (.int 14)) xNil))))))) (sSeq (sIf (bNot (bE (xCall f__law_reads (xCons (xV 5) xNil)))) (sRet (xK (.bool false))) sNil) (sSeq (sSet 7 (xL mkLst (xCons (xK (.str "a b")) (xCons (xK (.str "b a")) (xCons (xK (.str "~ ~")) (xCons (xK (.str ">~ 0")) xNil)))))) (sSeq (sFor (lOf rng1 (xCons (xL oLen (xCons (xV 5) xNil)) xNil)) (gSet 6) (sIf (bNot (bE (xCall f__law_reads (xCons (x2 dCatL (xCmp (lOf rng1 (xCons (xV 6) xNil)) (gSet 8) bYes (x2 dIx (xV 7) (x2 dMd (xL oInt (xCons (x2 dAdd (xV 8) (xV 6)) xNil)) (xK (.int 4))))) (xL mkLst (xCons (x2 dIx (xV 5) (xV 6)) (xCons (xK (.str "")) xNil)))) xNil)))) (sRet (xK (.bool false))) sNil)) (sSeq (sSet 9 (xL oLst (xCons (xV 2) xNil))) (sSeq (sFor (lSeq (xL mkLst (xCons (xL mkTup xNil) (xCons (xV 9) (xCons (xK .none) (xCons (x2 dIx (xV 2) (xK (.int 0))) (xCons (xK (.int 3)) (xCons (x2 dPlus (xV 2) (xL mkTup (xCons (xK .none) xNil))) (xCons (xL mkTup (xCons (xK (.str "a")) (xCons (xK (.bool true)) xNil))) (xCons (xL mkTup (xCons (xV 2) xNil)) (xCons (xL mkTup (xCons (xK (.str "a b")) (xCons (xL mkTup (xCons (xK (.str "a")) (xCons (xK (.str "b")) xNil))) xNil))) xNil))))))))))) (gSet 10) (sIf (bNot (bE (xCall f__law_refused (xCons (xK (.int 2)) (xCons (xV 10) (xCons (xK (.int 0)) (xCons (xK (.str "lines")) xNil))))))) (sRet (xK (.bool false))) sNil)) (sRet (x2 dEq (xV 9) (xL oLst (xCons (xV 2) xNil))))))))))))))
def f__law_rows : List D → Option (D × List D) := fnF 9 false g__law_rows
def S__law_rows : FS := ⟨[.sh, .sh], [.no, .no], .sh, f__law_rows⟩
def g__law_heaps : SF :=
  (sSeq (sSet 2 (xCall f__law_called (xCons (xV 1) xNil))) (sSeq (sSet 3 (xL mkTup (xCons (xL oLen (xCons (xV 2) xNil)) (xCons (xL oTup (xCons (xCmp (lSeq (xV 1)) (gSet 4) bYes (xL mkTup (xCons (x2 dIndex (xV 2) (x2 dIx (xV 4) (xK (.int 0)))) (xCons (x2 dIndex (xV 2) (x2 dIx (xV 4) (xK (.int 1)))) xNil)))) xNil)) xNil)))) (sSeq (sSet 5 (xL mkTup (xCons (xL oTup (xCons (xV 2) xNil)) (xCons (xV 3) xNil)))) (sSeq (sIf (bOr (bNot (bE (xCall (f__law_same 6) (xCons (xCall f_heap_of (xCons (xL oTup (xCons (xV 1) xNil)) xNil)) (xCons (xV 5) xNil))))) (bNot (bE (xCall (f__law_same 6) (xCons (xCall f_heap_of (xRo [0] (xCons (xL oTup (xCons (xV 1) xNil)) xNil))) (xCons (xV 5) xNil)))))) (sRet (xK (.bool false))) sNil) (sSeq (sIf (bOr (bE (x2 dGt (xL oLen (xCons (xV 1) xNil)) (xK (.int 40)))) (bE (x2 dGt (xL oLen (xCons (xV 2) xNil)) (xK (.int 9))))) (sRet (xK (.bool true))) sNil) (sSeq (sIf (bNot (bE (xCall (f__law_same 6) (xCons (xCall f_slips_of (xCons (xL oTup (xCons (xV 2) xNil)) (xCons (xV 3) xNil))) (xCons (xL oTup (xCons (xV 1) xNil)) xNil))))) (sRet (xK (.bool false))) sNil) (sSeq (sSet 6 (x2 dCatL (xCmp (lOf rng1 (xCons (xL oLen (xCons (xV 2) xNil)) xNil)) (gSet 7) bYes (x2 dAdd (xK (.str "x")) (x2 dIx (xV 2) (x2 dSub (x2 dSub (xL oLen (xCons (xV 2) xNil)) (xK (.int 1))) (xV 7))))) (xL mkLst (xCons (xK (.str "y")) xNil)))) (sSeq (sSet 8 (xL mkTup (xCons (x2 dAdd (x2 dIx (xV 3) (xK (.int 0))) (xK (.int 1))) (xCons (x2 dIx (xV 3) (xK (.int 1))) xNil)))) (sSeq (sSet 9 (xL oTup (xCons (xCmp (lSeq (x2 dIx (xV 3) (xK (.int 1)))) (gSet 4) bYes (xL mkTup (xCons (x2 dIx (xV 6) (x2 dIx (xV 4) (xK (.int 0)))) (xCons (x2 dIx (xV 6) (x2 dIx (xV 4) (xK (.int 1)))) xNil)))) xNil))) (sSeq (sIf (bNot (bE (xCall (f__law_same 6) (xCons (xCall f_slips_of (xCons (xL oTup (xCons (xSlL (xV 6) oNo (oInt1 (x1 dNeg (xK (.int 1))))) xNil)) (xCons (xV 3) xNil))) (xCons (xV 9) xNil))))) (sRet (xK (.bool false))) sNil) (sSeq (sIf (bNot (bE (xCall (f__law_same 6) (xCons (xCall f_slips_of (xRo [1, 0] (xCons (xV 8) (xCons (xL oTup (xCons (xV 6) xNil)) xNil)))) (xCons (xV 9) xNil))))) (sRet (xK (.bool false))) sNil) (sSeq (sIf (bNot (bE (xCall (f__law_same 6) (xCons (xCall f_slips_of (xCons (xL oTup (xCons (xV 6) xNil)) (xCons (xL mkTup (xCons (x2 dAdd (x2 dIx (xV 3) (xK (.int 0))) (xK (.int 1))) (xCons (xL mkTup xNil) xNil))) xNil))) (xCons (xL mkTup xNil) xNil))))) (sRet (xK (.bool false))) sNil) (sRet (xCall f__law_names (xCons (xV 0) (xCons (xV 6) (xCons (xV 8) xNil)))))))))))))))))
def f__law_heaps : List D → Option (D × List D) := fnF 8 false g__law_heaps
def S__law_heaps : FS := ⟨[.sh, .sh], [.no, .no], .sh, f__law_heaps⟩
def g_law : SF :=
  (sSeq (sSet 1 (xCall f__law_pairs (xCons (xV 0) xNil))) (sSeq (sIf (bOr (bNot (bE (xCall f__law_kinds (xCons (xV 1) xNil)))) (bNot (bE (xCall f__law_bad (xCons (xV 0) (xCons (xV 1) xNil)))))) (sRet (xK (.bool false))) sNil) (sRet (xAnd (xCall f__law_heaps (xCons (xV 0) (xCons (xV 1) xNil))) (xCall f__law_rows (xCons (xV 0) (xCons (xV 1) xNil)))))))
def f_law : List D → Option (D × List D) := fnF 1 false g_law
def S_law : FS := ⟨[.sh], [.no], .sh, f_law⟩
end LawK36

set_option linter.all false
set_option maxRecDepth 10000
/-! Pz: small steps. -/
namespace Pv
open PySem
theorem size_le : 100000 < sizeLine := by decide
theorem mkT (ds : List D) (h : ds.length ≤ 1000) : mkTup ds = some (.tuple ds) := mkTup_e (Nat.le_trans h (by decide))
theorem mkL (ds : List D) (h : ds.length ≤ 1000) : mkLst ds = some (.list ds) := mkLst_e (Nat.le_trans h (by decide))
theorem tup1 (a : D) : mkTup [a] = some (.tuple [a]) := mkT _ (by simp)
theorem tup2 (a b : D) : mkTup [a, b] = some (.tuple [a, b]) := mkT _ (by simp)
theorem tup3 (a b c : D) : mkTup [a, b, c] = some (.tuple [a, b, c]) := mkT _ (by simp)
section
variable {δ : List D} {f g h : EF} {d e a b c : D}
theorem x2_of {o : D → D → Option D} (h1 : f δ = some d) (h2 : g δ = some e) : x2 o f g δ = o d e := by rw [x2_e, h1, Option.bind_some, h2, Option.bind_some]
theorem x1_of {o : D → Option D} (h1 : f δ = some d) : x1 o f δ = o d := by rw [x1_e, h1, Option.bind_some]
theorem xL1 {o : List D → Option D} (h1 : f δ = some d) : xL o (xCons f xNil) δ = o [d] := by rw [xL_e, xCons_e, h1]; rfl
theorem xL2 {o : List D → Option D} (h1 : f δ = some d) (h2 : g δ = some e) : xL o (xCons f (xCons g xNil)) δ = o [d, e] := by rw [xL_e, xCons_e, h1, Option.bind_some, xCons_e, h2]; rfl
theorem tp2 (h1 : f δ = some d) (h2 : g δ = some e) : xL mkTup (xCons f (xCons g xNil)) δ = some (.tuple [d, e]) := by rw [xL2 h1 h2]; exact tup2 _ _
theorem tp1 (h1 : f δ = some d) : xL mkTup (xCons f xNil) δ = some (.tuple [d]) := by rw [xL1 h1]; exact tup1 _
theorem tp3 (h1 : f δ = some a) (h2 : g δ = some b) (h3 : h δ = some c) : xL mkTup (xCons f (xCons g (xCons h xNil))) δ = some (.tuple [a, b, c]) := by
  rw [xL_e, xCons_e, h1, Option.bind_some, xCons_e, h2, Option.bind_some, xCons_e, h3]; exact tup3 _ _ _
theorem tpl {ds : List D} (h1 : f δ = some (.list ds)) : xL oTup (xCons f xNil) δ = some (.tuple ds) := by rw [xL1 h1]; rfl
theorem call0 {F : List D → Option (D × List D)} {r : D} {x : List D} (h2 : F [] = some (r, x)) : xCall F xNil δ = some r := by rw [xCall_e]; show ((F []).map _) = _; rw [h2]; rfl
theorem call1 {F : List D → Option (D × List D)} {r : D} {x : List D} (h1 : f δ = some a) (h2 : F [a] = some (r, x)) : xCall F (xCons f xNil) δ = some r := by rw [xCall_e, xCons_e, h1]; show ((F [a]).map _) = _; rw [h2]; rfl
theorem call2 {F : List D → Option (D × List D)} {r : D} {x : List D} (h1 : f δ = some a) (h2 : g δ = some b) (h3 : F [a, b] = some (r, x)) : xCall F (xCons f (xCons g xNil)) δ = some r := by rw [xCall_e, xCons_e, h1, Option.bind_some, xCons_e, h2]; show ((F [a, b]).map _) = _; rw [h3]; rfl
theorem call3 {F : List D → Option (D × List D)} {r : D} {x : List D} (h1 : f δ = some a) (h2 : g δ = some b) (h3 : h δ = some c) (h4 : F [a, b, c] = some (r, x)) : xCall F (xCons f (xCons g (xCons h xNil))) δ = some r := by
  rw [xCall_e, xCons_e, h1, Option.bind_some, xCons_e, h2, Option.bind_some, xCons_e, h3]; show ((F [a, b, c]).map _) = _; rw [h4]; rfl
theorem call1N {F : List D → Option (D × List D)} (h1 : f δ = some a) (h2 : F [a] = none) : xCall F (xCons f xNil) δ = none := by rw [xCall_e, xCons_e, h1]; show ((F [a]).map _) = _; rw [h2]; rfl
theorem call2N {F : List D → Option (D × List D)} (h1 : f δ = some a) (h2 : g δ = some b) (h3 : F [a, b] = none) : xCall F (xCons f (xCons g xNil)) δ = none := by rw [xCall_e, xCons_e, h1, Option.bind_some, xCons_e, h2]; show ((F [a, b]).map _) = _; rw [h3]; rfl
theorem call1K {F : List D → Option (D × List D)} {r : D} {x : List D} (h1 : f δ = some a) (h2 : F [a] = some (r, x)) : xCall F (xRo [0] (xCons f xNil)) δ = some r := by
  have e : xRo [0] (xCons f xNil) δ = some [a] := by rw [xRo_e, xCons_e, h1]; rfl
  rw [xCall_e, e, Option.bind_some, h2]
  rfl
theorem call2K {F : List D → Option (D × List D)} {r : D} {x : List D} (h1 : f δ = some a) (h2 : g δ = some b) (h3 : F [b, a] = some (r, x)) : xCall F (xRo [1, 0] (xCons f (xCons g xNil))) δ = some r := by
  have e : xRo [1, 0] (xCons f (xCons g xNil)) δ = some [b, a] := by rw [xRo_e, xCons_e, h1, Option.bind_some, xCons_e, h2]; rfl
  rw [xCall_e, e, Option.bind_some, h3]
  rfl
theorem bE_of {k : Bool} (h1 : f δ = some (.bool k)) : bE f δ = some k := by rw [bE_e, h1]; rfl
theorem bN_of {c : BF} {k : Bool} (h1 : c δ = some k) : bNot c δ = some (!k) := by rw [bNot_e, h1]; rfl
theorem or_f {c c' : BF} {k : Bool} (h1 : c δ = some false) (h2 : c' δ = some k) : bOr c c' δ = some k := by rw [bOr_e, h1, Option.bind_some]; simpa using h2
theorem or_t {c c' : BF} (h1 : c δ = some true) : bOr c c' δ = some true := by rw [bOr_e, h1]; rfl
theorem or_k {c c' : BF} {k k' : Bool} (h1 : c δ = some k) (h2 : k = false → c' δ = some k') : bOr c c' δ = some (k || k') := by
  rw [bOr_e, h1, Option.bind_some]
  cases k with
  | true => rfl
  | false => simpa using h2 rfl
theorem and_t {c c' : BF} {k : Bool} (h1 : c δ = some true) (h2 : c' δ = some k) : bAnd c c' δ = some k := by rw [bAnd_e, h1, Option.bind_some]; simpa using h2
theorem and_f {c c' : BF} (h1 : c δ = some false) : bAnd c c' δ = some false := by rw [bAnd_e, h1]; rfl
theorem xand_k {k k' : Bool} (h1 : f δ = some (.bool k)) (h2 : k = true → g δ = some (.bool k')) : xAnd f g δ = some (.bool (k && k')) := by
  rw [xAnd_e, h1, Option.bind_some, toB_e, Option.bind_some]
  cases k with
  | true => rw [if_pos rfl, h2 rfl]; rfl
  | false => rfl
theorem if_f {c : BF} {s t : SF} (h1 : c δ = some false) : sIf c s t δ = t δ := by rw [sIf_e, h1]; rfl
theorem if_t {c : BF} {s t : SF} (h1 : c δ = some true) : sIf c s t δ = s δ := by rw [sIf_e, h1]; rfl
/-- an if that is passed by -/
theorem pass_if {c : BF} {s t : SF} (h1 : c δ = some false) : sSeq (sIf c s sNil) t δ = t δ := sSeq_nx (by rw [if_f h1]; rfl)
theorem no_if {c : BF} {s t u : SF} (h1 : c δ = some true) (h2 : s δ = none) : sSeq (sIf c s u) t δ = none := by rw [sSeq_e, if_t h1, h2]; rfl
theorem ret_if {c : BF} {s t u : SF} {δ' : List D} (h1 : c δ = some true) (h2 : s δ = some (.rt d δ')) : sSeq (sIf c s u) t δ = some (.rt d δ') := sSeq_rt (by rw [if_t h1, h2])
theorem set_of {i : Nat} {t : SF} (h1 : f δ = some d) : sSeq (sSet i f) t δ = t (δ.set i d) := sSeq_nx (by rw [sSet_e, h1]; rfl)
theorem ret_of (h1 : f δ = some d) : sRet f δ = some (.rt d δ) := by rw [sRet_e, h1]; rfl
theorem fn_rt {nl : Nat} {fo : Bool} {G : SF} {ds δ' : List D} (h1 : G (ds ++ List.replicate nl .none) = some (.rt d δ')) (h2 : δ'.take ds.length = ds) : fnF nl fo G ds = some (d, ds) := by rw [fnF_e, h1, Option.bind_some, outF_rt, h2]
theorem fn_no {nl : Nat} {fo : Bool} {G : SF} {ds : List D} (h1 : G (ds ++ List.replicate nl .none) = none) : fnF nl fo G ds = none := by rw [fnF_e, h1]; rfl
theorem drop_e {m : EM} {δ' : List D} (h : m δ = some (d, δ')) : sDrop m δ = some (.nx δ') := by rw [sDrop_e, h]; rfl
end
theorem cmpP_g {α : Type} {tg : D → List D → Option (List D)} {c : BF} {f : EF} {δ : List D} (e : α → D) (p : α → Bool) (g : α → D) (δ1 : α → List D) : ∀ xs : List α, (∀ x ∈ xs, tg (e x) δ = some (δ1 x) ∧ c (δ1 x) = some (p x) ∧ (p x = true → f (δ1 x) = some (g x))) → cmpP tg c f δ (xs.map e) = some ((xs.filter p).map g)
  | [], _ => rfl
  | x :: xs, h => by
    obtain ⟨h1, h2, h3⟩ := h x List.mem_cons_self
    rw [List.map_cons, cmpP, h1, Option.bind_some, h2, Option.bind_some, cmpP_g e p g δ1 xs fun y hy => h y (List.mem_cons_of_mem _ hy)]
    cases hp : p x with
    | true => rw [if_pos rfl, h3 hp, Option.bind_some, List.filter_cons_of_pos hp]; rfl
    | false => rw [if_neg Bool.false_ne_true, List.filter_cons_of_neg (by rw [hp]; exact Bool.false_ne_true)]
theorem xCmp_g {α : Type} {src : LF} {tg : D → List D → Option (List D)} {c : BF} {f : EF} {δ : List D} (e : α → D) (p : α → Bool) (g : α → D) (δ1 : α → List D) (xs : List α) (hs : src δ = some (xs.map e)) (hl : xs.length ≤ sizeLine) (h : ∀ x ∈ xs, tg (e x) δ = some (δ1 x) ∧ c (δ1 x) = some (p x) ∧ (p x = true → f (δ1 x) = some (g x))) :
    xCmp src tg c f δ = some (.list ((xs.filter p).map g)) := by
  rw [xCmp_e, hs, Option.bind_some, if_pos (by rw [List.length_map]; exact hl), cmpP_g e p g δ1 xs h]
  rfl
theorem xCmp_m {α : Type} {src : LF} {tg : D → List D → Option (List D)} {f : EF} {δ : List D} (e : α → D) (g : α → D) (δ1 : α → List D) (xs : List α) (hs : src δ = some (xs.map e)) (hl : xs.length ≤ sizeLine) (h : ∀ x ∈ xs, tg (e x) δ = some (δ1 x) ∧ f (δ1 x) = some (g x)) :
    xCmp src tg bYes f δ = some (.list (xs.map g)) := by
  have := xCmp_g (c := bYes) e (fun _ => true) g δ1 xs hs hl fun x hx => ⟨(h x hx).1, rfl, fun _ => (h x hx).2⟩
  rw [List.filter_eq_self.mpr fun _ _ => rfl] at this
  exact this
theorem forL_inv {tg : D → List D → Option (List D)} {b : SF} (I : Nat → List D → Prop) : ∀ (ds : List D) (k : Nat) (δ : List D), I k δ →
    (∀ (j : Nat) (d : D) (δ : List D), ds[j]? = some d → I (k + j) δ → ∃ δ1 δ2, tg d δ = some δ1 ∧ b δ1 = some (.nx δ2) ∧ I (k + j + 1) δ2) → ∃ δ', forL tg b ds δ = some (.nx δ') ∧ I (k + ds.length) δ'
  | [], k, δ, h, _ => ⟨δ, rfl, h⟩
  | d :: ds, k, δ, h, st => by
    obtain ⟨δ1, δ2, e1, e2, h2⟩ := st 0 d δ rfl h
    obtain ⟨δ', e3, h3⟩ := forL_inv I ds (k + 1) δ2 h2 fun j d' δ e hi => by
      have := st (j + 1) d' δ (by simpa using e) (by rw [show k + (j + 1) = k + 1 + j by omega]; exact hi)
      rw [show k + (j + 1) + 1 = k + 1 + j + 1 by omega] at this
      exact this
    refine ⟨δ', ?_, by rw [List.length_cons, show k + (ds.length + 1) = k + 1 + ds.length by omega]; exact h3⟩
    unfold forL
    rw [e1, Option.bind_some, e2]
    exact e3
/-- a loop that asks each item: goes through, or returns r at the first that p refuses -/
theorem forL_ask {α : Type} {tg : D → List D → Option (List D)} {b : SF} {r : D} (e : α → D) (p : α → Bool) (I : List D → Prop) : ∀ (xs : List α) (δ : List D), I δ →
    (∀ x ∈ xs, ∀ δ, I δ → ∃ δ1, tg (e x) δ = some δ1 ∧ ((p x = true ∧ ∃ δ2, b δ1 = some (.nx δ2) ∧ I δ2) ∨ (p x = false ∧ ∃ δ2, b δ1 = some (.rt r δ2) ∧ I δ2))) →
    (xs.all p = true ∧ ∃ δ', forL tg b (xs.map e) δ = some (.nx δ') ∧ I δ') ∨ (xs.all p = false ∧ ∃ δ', forL tg b (xs.map e) δ = some (.rt r δ') ∧ I δ')
  | [], δ, h, _ => .inl ⟨rfl, δ, rfl, h⟩
  | x :: xs, δ, h, st => by
    obtain ⟨δ1, e1, h1⟩ := st x List.mem_cons_self δ h
    rcases h1 with ⟨hp, δ2, e2, h2⟩ | ⟨hp, δ2, e2, h2⟩
    · have ih := forL_ask e p I xs δ2 h2 fun y hy => st y (List.mem_cons_of_mem _ hy)
      have eq : forL tg b ((x :: xs).map e) δ = forL tg b (xs.map e) δ2 := by
        rw [List.map_cons, forL, e1, Option.bind_some, e2]; rfl
      rw [eq, List.all_cons, hp, Bool.true_and]
      exact ih
    · refine .inr ⟨by rw [List.all_cons, hp]; rfl, δ2, ?_, h2⟩
      rw [List.map_cons, forL, e1, Option.bind_some, e2]
      rfl
theorem for_nx {src : LF} {tg : D → List D → Option (List D)} {b t : SF} {ds δ δ' : List D} (h1 : src δ = some ds) (h2 : forL tg b ds δ = some (.nx δ')) : sSeq (sFor src tg b) t δ = t δ' := sSeq_nx (by rw [sFor_e, h1, Option.bind_some, h2])
theorem for_rt {src : LF} {tg : D → List D → Option (List D)} {b t : SF} {ds δ δ' : List D} {d : D} (h1 : src δ = some ds) (h2 : forL tg b ds δ = some (.rt d δ')) : sSeq (sFor src tg b) t δ = some (.rt d δ') := sSeq_rt (by rw [sFor_e, h1, Option.bind_some, h2])
theorem forL_cnx {tg : D → List D → Option (List D)} {b : SF} {x : D} {xs δ δ1 δ2 : List D} (h1 : tg x δ = some δ1) (h2 : b δ1 = some (.nx δ2)) : forL tg b (x :: xs) δ = forL tg b xs δ2 := by rw [forL, h1, Option.bind_some, h2]; rfl
theorem forL_crt {tg : D → List D → Option (List D)} {b : SF} {x d : D} {xs δ δ1 δ2 : List D} (h1 : tg x δ = some δ1) (h2 : b δ1 = some (.rt d δ2)) : forL tg b (x :: xs) δ = some (.rt d δ2) := by rw [forL, h1, Option.bind_some, h2]; rfl
theorem forL_cno {tg : D → List D → Option (List D)} {b : SF} {x : D} {xs δ δ1 : List D} (h1 : tg x δ = some δ1) (h2 : b δ1 = none) : forL tg b (x :: xs) δ = none := by rw [forL, h1, Option.bind_some, h2]; rfl
theorem at0 {α : Type} (a : α) (l : List α) : L2.atI (a :: l) 0 = some a := by
  have := atI_nat (l := a :: l) (n := 0) (by simp)
  simpa using this
theorem at1 {α : Type} (a b : α) (l : List α) : L2.atI (a :: b :: l) 1 = some b := by
  have := atI_nat (l := a :: b :: l) (n := 1) (by simp)
  simpa using this
theorem at2 {α : Type} (a b c : α) (l : List α) : L2.atI (a :: b :: c :: l) 2 = some c := by
  have := atI_nat (l := a :: b :: c :: l) (n := 2) (by simp)
  simpa using this
theorem atI_of {α : Type} {l : List α} {n : Nat} {a : α} (h : l[n]? = some a) : L2.atI l (n : Int) = some a := by rw [atI_nat (List.getElem?_eq_some_iff.mp h).1, h]
theorem rng_get {n j : Nat} {d : D} (h : (rngD 0 n)[j]? = some d) : d = .int j ∧ j < n := by
  unfold rngD at h
  rw [List.getElem?_map] at h
  obtain ⟨k, h1, rfl⟩ := Option.map_eq_some_iff.mp h
  obtain ⟨h2, h3⟩ := List.getElem?_eq_some_iff.mp h1
  rw [List.length_range] at h2
  rw [List.getElem_range] at h3
  subst h3
  exact ⟨by rw [Int.zero_add], h2⟩
theorem rng_len (n : Nat) : (rngD 0 n).length = n := by simp [rngD]
theorem rng_map (n : Nat) : rngD 0 n = (List.range n).map fun k => PyData.int ((k : Nat) : Int) := by
  unfold rngD
  exact List.map_congr_left fun k _ => by rw [Int.zero_add]
theorem rng1_e {n : Nat} (h : n ≤ sizeLine) : rng1 [.int n] = some (rngD 0 n) := by
  have h2 : (n : Int) < 2 ^ 62 := by
    have h3 : sizeLine ≤ 2 ^ 24 := by decide
    have h4 : n ≤ 2 ^ 24 := Nat.le_trans h h3
    omega
  unfold rng1
  split
  · rename_i j e
    cases e
    rw [if_pos ⟨by omega, h2⟩, Int.toNat_natCast]
  · rename_i h3
    exact absurd rfl (h3 _)
theorem rng_of {δ : List D} {f : EF} {n : Nat} (h1 : f δ = some (.int n)) (h : n ≤ sizeLine) : lOf rng1 (xCons f xNil) δ = some (rngD 0 n) := by
  rw [lOf_e, xCons_e, h1, Option.bind_some, xNil_e, Option.bind_some, Option.bind_some]; exact rng1_e h
theorem getL_e {δ : List D} {i : Nat} {ds : List D} (h : δ[i]? = some (.list ds)) : getL δ i = some ds := by unfold getL; rw [h]
theorem app_e {i : Nat} {f : EF} {δ : List D} {y : D} {ds : List D} (hf : f δ = some y) (h : δ[i]? = some (.list ds)) (hl : ds.length < sizeLine) : xApp i (mOf f) δ = some (.none, δ.set i (.list (ds ++ [y]))) := by
  unfold xApp
  rw [mOf_e, hf]
  show (getL δ i).bind _ = _
  rw [getL_e h]
  show (if ds.length < sizeLine then _ else _) = _
  rw [if_pos hl]
/-! ### texts -/
section
variable {x y : Str}
theorem slen (x : Str) : x.length = (TL.tl x).length := TL.len_tl x
theorem slen_app (x y : Str) : (x ++ y).length = x.length + y.length := by rw [slen, TL.tl_append, List.length_append, ← slen, ← slen]
theorem eqv_str : PyData.eqv (.str x) (.str y) = (x == y) := by rw [PyData.eqv]
theorem shp_str (h : PyData.strOk x = true) : SeqAt.shaped (.str x) = true := by simp [SeqAt.shaped, PyData.canLay0, PyData.depth, h]
theorem dEq_str (hx : PyData.strOk x = true) (hy : PyData.strOk y = true) : dEq (.str x) (.str y) = some (.bool (x == y)) := by
  show (if SeqAt.shaped (PyData.str x) && SeqAt.shaped (PyData.str y) then some (PyData.bool (PyData.eqv (.str x) (.str y))) else none) = _
  rw [shp_str hx, shp_str hy, eqv_str]; rfl
theorem dNe_str (hx : PyData.strOk x = true) (hy : PyData.strOk y = true) : dNe (.str x) (.str y) = some (.bool (!(x == y))) := by
  show (if SeqAt.shaped (PyData.str x) && SeqAt.shaped (PyData.str y) then some (PyData.bool (!PyData.eqv (.str x) (.str y))) else none) = _
  rw [shp_str hx, shp_str hy, eqv_str]; rfl
theorem dAdd_str (h : x.length + y.length ≤ sizeLine) : dAdd (.str x) (.str y) = some (.str (x ++ y)) := by show (if x.length + y.length ≤ sizeLine then some (PyData.str (x ++ y)) else none) = _; rw [if_pos h]
theorem oLen_s (h : x.length ≤ sizeLine) : oLen [.str x] = some (.int x.length) := by show (if x.length ≤ sizeLine then some (PyData.int x.length) else none) = _; rw [if_pos h]
theorem flat_str (x : Str) : flatD (.str x) = true := rfl
theorem all_flatS (ws : List Str) : (ws.map PyData.str).all flatD = true := by simp [flatD]
theorem any_strs (ws : List Str) (x : Str) : ((ws.map PyData.str).any fun z => PyData.eqv z (.str x)) = decide (x ∈ ws) := by
  induction ws with
  | nil => rfl
  | cons w ws ih =>
    rw [List.map_cons, List.any_cons, ih, eqv_str]
    by_cases h : w = x
    · subst h; simp
    · have h' : ¬ x = w := fun z => h z.symm
      rw [beq_eq_false_iff_ne.mpr h]
      simp [h']
theorem dIn_strs (ws : List Str) (x : Str) : dIn (.str x) (.list (ws.map .str)) = some (.bool (decide (x ∈ ws))) := by
  unfold dIn
  simp only [asSeq_l, flat_str, all_flatS, Bool.and_self, if_true, any_strs]
theorem dNotIn_strs (ws : List Str) (x : Str) : dNotIn (.str x) (.list (ws.map .str)) = some (.bool (!decide (x ∈ ws))) := by
  unfold dNotIn
  simp only [asSeq_l, flat_str, all_flatS, Bool.and_self, if_true, any_strs]
theorem find_strs (ws : List Str) (x : Str) : ((ws.map PyData.str).findIdx? fun z => PyData.eqv z (.str x)) = if x ∈ ws then some (ws.idxOf x) else none := by
  induction ws with
  | nil => rfl
  | cons w ws ih =>
    rw [List.map_cons, List.findIdx?_cons, eqv_str, ih]
    by_cases h : w = x
    · subst h; simp
    · have h' : ¬ x = w := fun z => h z.symm
      rw [beq_eq_false_iff_ne.mpr h, if_neg Bool.false_ne_true]
      by_cases hm : x ∈ ws
      · rw [if_pos hm, if_pos (List.mem_cons_of_mem _ hm), List.idxOf_cons, beq_eq_false_iff_ne.mpr h]
        rfl
      · rw [if_neg hm, if_neg (by simp [h', hm])]
        rfl
theorem dIndex_strs {ws : List Str} {x : Str} (h : x ∈ ws) : dIndex (.list (ws.map .str)) (.str x) = some (.int ((ws.idxOf x : Nat) : Int)) := by
  unfold dIndex
  simp only [flat_str, all_flatS, Bool.and_self, if_true, find_strs, if_pos h, Option.map_some]
end
end Pv

set_option linter.all false
set_option maxRecDepth 10000
namespace LawK36
open PySem Pv
/-! k36: numbers, likeness -/
abbrev scr (ns : List Int) : D := .list (ns.map .int)
theorem f_lnum (ns : List Int) (k L : Int) (hL : 0 < L) : ∃ v : Nat, (v : Int) < L ∧ f__law_num [scr ns, .int k, .int L] = some (.int v, [scr ns, .int k, .int L]) := by
  have c0 : xL oLen (xCons (xV 0) xNil) [scr ns, .int k, .int L, .int 0] = some (.int ((ns.map PyData.int).length : Nat)) := rfl
  rw [List.length_map] at c0
  obtain ⟨c, hc⟩ : ∃ c : Int, sIf (bE (x2 dGt (xL oLen (xCons (xV 0) xNil)) (xK (.int 0)))) (sSet 3 (x2 dIx (xV 0) (x2 dMd (xL oInt (xCons (xV 1) xNil)) (xL oLen (xCons (xV 0) xNil))))) sNil [scr ns, .int k, .int L, .int 0] = some (.nx [scr ns, .int k, .int L, .int c]) := by
    by_cases h : 0 < ns.length
    · have hm := Int.emod_nonneg k (b := (ns.length : Int)) (by omega)
      have hm2 := Int.emod_lt_of_pos k (b := (ns.length : Int)) (by omega)
      obtain ⟨n, hn⟩ := Int.eq_ofNat_of_zero_le hm
      have hlt : n < ns.length := by omega
      refine ⟨ns[n], ?_⟩
      rw [if_t (bE_of (by rw [x2_of c0 rfl, dGt_e, decide_eq_true (by omega)])), sSet_e]
      have e1 : x2 dMd (xL oInt (xCons (xV 1) xNil)) (xL oLen (xCons (xV 0) xNil)) [scr ns, .int k, .int L, .int 0] = some (.int n) := by
        rw [x2_of (d := .int k) rfl c0, dMd_e (by omega), hn]
      have e2 : x2 dIx (xV 0) (x2 dMd (xL oInt (xCons (xV 1) xNil)) (xL oLen (xCons (xV 0) xNil))) [scr ns, .int k, .int L, .int 0] = some (.int ns[n]) := by
        rw [x2_of (d := scr ns) rfl e1, dIx_l]
        exact atI_of (by rw [List.getElem?_map, List.getElem?_eq_getElem hlt]; rfl)
      rw [e2]
      rfl
    · refine ⟨0, ?_⟩
      rw [if_f (bE_of (by rw [x2_of c0 rfl, dGt_e, decide_eq_false (by omega)]))]
      rfl
  have hv := Int.emod_nonneg ((c * 7919 + 29 * k + 5) % 1000003) (b := L) (by omega)
  have hv2 := Int.emod_lt_of_pos ((c * 7919 + 29 * k + 5) % 1000003) (b := L) hL
  obtain ⟨v, ev⟩ := Int.eq_ofNat_of_zero_le hv
  refine ⟨v, by omega, fn_rt (δ' := [scr ns, .int k, .int L, .int c]) ?_ rfl⟩
  show g__law_num [scr ns, .int k, .int L, .none] = _
  unfold g__law_num
  rw [set_of (d := .int 0) rfl]
  show sSeq _ _ [scr ns, .int k, .int L, .int 0] = _
  rw [sSeq_nx hc]
  refine ret_of ?_
  have m1 : x2 dMul (xL oInt (xCons (xV 3) xNil)) (xK (.int 7919)) [scr ns, .int k, .int L, .int c] = some (.int (c * 7919)) := by
    rw [x2_of (d := .int c) (e := .int 7919) rfl rfl, dMul_e (by simp [mulOk])]
  have m2 : x2 dMul (xK (.int 29)) (xV 1) [scr ns, .int k, .int L, .int c] = some (.int (29 * k)) := by
    rw [x2_of (d := .int 29) (e := .int k) rfl rfl, dMul_e (by simp [mulOk])]
  have m3 : x2 dAdd (x2 dAdd (x2 dMul (xL oInt (xCons (xV 3) xNil)) (xK (.int 7919))) (x2 dMul (xK (.int 29)) (xV 1))) (xK (.int 5)) [scr ns, .int k, .int L, .int c] = some (.int (c * 7919 + 29 * k + 5)) := by
    rw [x2_of (e := .int 5) (x2_of m1 m2) rfl]; rfl
  have m4 : xL oInt (xCons (x2 dAdd (x2 dAdd (x2 dMul (xL oInt (xCons (xV 3) xNil)) (xK (.int 7919))) (x2 dMul (xK (.int 29)) (xV 1))) (xK (.int 5))) xNil) [scr ns, .int k, .int L, .int c] = some (.int (c * 7919 + 29 * k + 5)) := by rw [xL1 m3]; rfl
  rw [x2_of (d := .int ((c * 7919 + 29 * k + 5) % 1000003)) (e := .int L) (by rw [x2_of (e := .int 1000003) m4 rfl, dMd_e (by decide)]) rfl, dMd_e hL, ev]
/-- a drawn number -/
theorem lnum_of {δ : List D} {f g h : EF} {ns : List Int} {k L : Int} (h1 : f δ = some (scr ns)) (h2 : g δ = some (.int k)) (h3 : h δ = some (.int L)) (hL : 0 < L) : ∃ v : Nat, (v : Int) < L ∧ xCall f__law_num (xCons f (xCons g (xCons h xNil))) δ = some (.int v) := by
  obtain ⟨v, hv, e⟩ := f_lnum ns k L hL
  exact ⟨v, hv, call3 h1 h2 h3 e⟩
/-! ### likeness -/
def okS : Nat → D → Bool
  | 0, _ => false
  | _ + 1, .int _ => true
  | _ + 1, .str x => PyData.strOk x
  | k + 1, .tuple ds => decide (ds.length ≤ sizeLine) && ds.all (okS k)
  | _ + 1, _ => false
theorem okS_t (k : Nat) (ds : List D) : okS (k + 1) (.tuple ds) = (decide (ds.length ≤ sizeLine) && ds.all (okS k)) := rfl
theorem okS_s (k : Nat) (x : Str) : okS (k + 1) (.str x) = PyData.strOk x := rfl
theorem okS_i (k : Nat) (x : Int) : okS (k + 1) (.int x) = true := rfl
theorem same_i (k : Nat) (i : Int) : f__law_same (k + 1) [.int i, .int i] = some (.bool true, [.int i, .int i]) := by
  refine fn_rt (δ' := [.int i, .int i, .none]) ?_ rfl
  show g__law_same (f__law_same k) [.int i, .int i, .none] = _
  unfold g__law_same
  rw [pass_if rfl, pass_if rfl, pass_if rfl, pass_if rfl, pass_if rfl]
  refine ret_of ?_
  refine xand_k (k := true) rfl fun _ => xand_k (k := true) rfl fun _ => ?_
  rw [x2_of (d := .int i) (e := .int i) rfl rfl, dEq_e, beq_self_eq_true]
theorem same_s (k : Nat) (x : Str) (h : PyData.strOk x = true) : f__law_same (k + 1) [.str x, .str x] = some (.bool true, [.str x, .str x]) := by
  refine fn_rt (δ' := [.str x, .str x, .none]) ?_ rfl
  show g__law_same (f__law_same k) [.str x, .str x, .none] = _
  unfold g__law_same
  rw [pass_if rfl, pass_if rfl, pass_if rfl]
  refine ret_if rfl ?_
  refine ret_of ?_
  refine xand_k (k := true) rfl fun _ => ?_
  rw [x2_of (d := .str x) (e := .str x) rfl rfl, dEq_str h h, beq_self_eq_true]
theorem same_t (k : Nat) (ds : List D) (hl : ds.length ≤ sizeLine) (h : ∀ x ∈ ds, f__law_same k [x, x] = some (.bool true, [x, x])) : f__law_same (k + 1) [.tuple ds, .tuple ds] = some (.bool true, [.tuple ds, .tuple ds]) := by
  have c1 : bOr (bNot (bE (x1 (dIsi "tuple") (xV 0)))) (bE (x2 dNe (xL oLen (xCons (xV 0) xNil)) (xL oLen (xCons (xV 1) xNil)))) [.tuple ds, .tuple ds, .none] = some false := by
    refine or_f rfl (bE_of ?_)
    rw [x2_of (d := .int ds.length) (e := .int ds.length) rfl rfl, dNe_e]
    simp
  obtain ⟨δ', e, a, rfl⟩ := forL_inv (tg := gSet 2) (b := sIf (bNot (bE (xCall (f__law_same k) (xCons (x2 dIx (xV 0) (xV 2)) (xCons (x2 dIx (xV 1) (xV 2)) xNil))))) (sRet (xK (.bool false))) sNil)
    (fun _ δ => ∃ a, δ = [.tuple ds, .tuple ds, a]) (rngD 0 ds.length) 0 [.tuple ds, .tuple ds, .none] ⟨_, rfl⟩ fun j d δ hd ⟨a, e⟩ => by
      subst e
      obtain ⟨rfl, hj⟩ := rng_get hd
      refine ⟨_, [.tuple ds, .tuple ds, .int j], rfl, ?_, _, rfl⟩
      have e1 : L2.atI ds (j : Int) = some ds[j] := atI_of (List.getElem?_eq_getElem hj)
      show sIf _ _ _ [.tuple ds, .tuple ds, .int j] = _
      rw [if_f (bN_of (bE_of (call2 (a := ds[j]) (b := ds[j]) (by rw [x2_of (d := .tuple ds) (e := .int j) rfl rfl, dIx_t, e1]) (by rw [x2_of (d := .tuple ds) (e := .int j) rfl rfl, dIx_t, e1]) (h _ (List.getElem_mem hj)))))]
      rfl
  refine fn_rt (δ' := [.tuple ds, .tuple ds, a]) ?_ rfl
  show g__law_same (f__law_same k) [.tuple ds, .tuple ds, .none] = _
  unfold g__law_same
  rw [pass_if rfl, pass_if rfl, pass_if rfl, pass_if rfl]
  refine ret_if rfl ?_
  rw [pass_if c1]
  have l : sFor (lOf rng1 (xCons (xL oLen (xCons (xV 1) xNil)) xNil)) (gSet 2) (sIf (bNot (bE (xCall (f__law_same k) (xCons (x2 dIx (xV 0) (xV 2)) (xCons (x2 dIx (xV 1) (xV 2)) xNil))))) (sRet (xK (.bool false))) sNil) [.tuple ds, .tuple ds, .none] = some (.nx [.tuple ds, .tuple ds, a]) := by
    rw [sFor_e, rng_of (n := ds.length) rfl hl, Option.bind_some, e]
  rw [sSeq_nx l]
  exact ret_of rfl
theorem same_refl (k : Nat) : ∀ x : D, okS k x = true → f__law_same k [x, x] = some (.bool true, [x, x]) := by
  induction k with
  | zero => intro x h; cases h
  | succ k ih =>
    intro x h
    cases x with
    | int i => exact same_i k i
    | str x => exact same_s k x h
    | tuple ds =>
      rw [okS_t, Bool.and_eq_true] at h
      exact same_t k ds (of_decide_eq_true h.1) fun x hx => ih x (List.all_eq_true.mp h.2 x hx)
    | _ => cases h
section
variable {δ : List D} {f g : EF} {d : D}
theorem sm (h1 : f δ = some d) (h2 : g δ = some d) (h : okS 6 d = true) : xCall (f__law_same 6) (xCons f (xCons g xNil)) δ = some (.bool true) := call2 h1 h2 (same_refl 6 d h)
theorem smN (h1 : f δ = some d) (h2 : g δ = some d) (h : okS 6 d = true) : bNot (bE (xCall (f__law_same 6) (xCons f (xCons g xNil)))) δ = some false := bN_of (bE_of (sm h1 h2 h))
end
end LawK36

set_option linter.all false
set_option maxRecDepth 10000
namespace LawK36
open PySem Pv
/-! k36: kinds -/
theorem sp_cps : (Str.ofString " ").cps.toList = [32] := by decide +kernel
def isN (x : Str) : Bool := decide (0 < x.length) && !decide (32 ∈ x.cps.toList)
def nameD : D → Bool
  | .str x => isN x
  | _ => false
def plainD : D → Bool
  | .dict _ => false
  | .str x => decide (x.length ≤ sizeLine)
  | _ => true
theorem notSp (x : Str) : dNotInS (.str " ") (.str x) = some (.bool (!decide (32 ∈ x.cps.toList))) := by
  unfold dNotInS
  show (match (Str.ofString " ").cps.toList with | [k] => some (PyData.bool (!decide (k ∈ x.cps.toList))) | _ => none) = _
  rw [sp_cps]
theorem f_name (d : D) (h : plainD d = true) : f__is_name [d] = some (.bool (nameD d), [d]) := by
  refine fn_rt (δ' := [d]) ?_ rfl
  show g__is_name [d] = _
  unfold g__is_name
  refine ret_of ?_
  cases d with
  | str x =>
    have hx : x.length ≤ sizeLine := of_decide_eq_true h
    refine xand_k (k := true) rfl fun _ => xand_k (k := decide (0 < x.length)) ?_ fun _ => ?_
    · rw [x2_of (d := .int x.length) (e := .int 0) (by rw [xL1 (d := .str x) rfl, oLen_s hx]) rfl, dGt_e]
      congr 2
      simp
    · rw [x2_of (d := .str " ") (e := .str x) rfl rfl, notSp]
  | dict _ => cases h
  | _ => exact xand_k (k := false) (k' := true) rfl fun z => nomatch z
def slipD : D → Bool
  | .tuple [a, b] => nameD a && nameD b
  | _ => false
def plain2 : D → Bool
  | .dict _ => false
  | .tuple ds => ds.all plainD
  | _ => true
theorem f_slip (d : D) (h : plain2 d = true) : f_is_slip [d] = some (.bool (slipD d), [d]) := by
  refine fn_rt (δ' := [d]) ?_ rfl
  show g_is_slip [d] = _
  unfold g_is_slip
  cases d with
  | dict _ => cases h
  | tuple ds =>
    have c : bOr (bNot (bE (x1 (dIsi "tuple") (xV 0)))) (bE (x2 dNe (xL oLen (xCons (xV 0) xNil)) (xK (.int 2)))) [.tuple ds] = some (!(decide (ds.length = 2))) := by
      refine or_f rfl (bE_of ?_)
      rw [x2_of (d := .int ds.length) (e := .int 2) rfl rfl, dNe_e]
      congr 3
      rw [Bool.eq_iff_iff]
      simp
      omega
    match ds, h with
    | [a, b], h =>
      have ha : plainD a = true ∧ plainD b = true := by
        have : (plainD a && (plainD b && true)) = true := h
        simpa using this
      rw [pass_if c]
      refine ret_of (xand_k (call1 ?_ (f_name a ha.1)) fun _ => call1 ?_ (f_name b ha.2))
      · rw [x2_of (d := .tuple [a, b]) (e := .int 0) rfl rfl]; exact at0 _ _
      · rw [x2_of (d := .tuple [a, b]) (e := .int 1) rfl rfl]; exact at1 _ _ _
    | [], _ => exact ret_if c rfl
    | [_], _ => exact ret_if c rfl
    | _ :: _ :: _ :: ds, _ =>
      refine ret_if (c.trans ?_) rfl
      rw [decide_eq_false (by simp)]
      rfl
  | _ => exact ret_if (or_t rfl) rfl
def slipsD : D → Bool
  | .tuple ds => !ds.isEmpty && ds.all slipD
  | _ => false
def plain3 : D → Bool
  | .dict _ => false
  | .tuple ds => ds.all plain2
  | _ => true
theorem len0 (ds : List D) : x2 dEq (xL oLen (xCons (xV 0) xNil)) (xK (.int 0)) [.tuple ds, .none] = some (.bool ds.isEmpty) := by
  rw [x2_of (d := .int ds.length) (e := .int 0) rfl rfl, dEq_e]
  cases ds with
  | nil => rfl
  | cons a ds =>
    rw [List.length_cons]
    congr 2
theorem f_slips (d : D) (h : plain3 d = true) : f__are_slips [d] = some (.bool (slipsD d), [d]) := by
  cases d with
  | dict _ => cases h
  | tuple ds =>
    have c : bOr (bNot (bE (x1 (dIsi "tuple") (xV 0)))) (bE (x2 dEq (xL oLen (xCons (xV 0) xNil)) (xK (.int 0)))) [.tuple ds, .none] = some ds.isEmpty := or_f rfl (bE_of (len0 ds))
    cases he : ds.isEmpty with
    | true =>
      refine fn_rt (δ' := [.tuple ds, .none]) ?_ rfl
      show g__are_slips [.tuple ds, .none] = _
      unfold g__are_slips
      rw [he] at c
      rw [ret_if (d := .bool false) (δ' := [.tuple ds, .none]) c rfl]
      show some (Out.rt (.bool false) _) = some (Out.rt (.bool (!ds.isEmpty && ds.all slipD)) _)
      rw [he]
      rfl
    | false =>
      rw [he] at c
      have l := forL_ask (tg := gSet 1) (b := sIf (bNot (bE (xCall f_is_slip (xCons (xV 1) xNil)))) (sRet (xK (.bool false))) sNil) (r := .bool false) (fun d => d) slipD (fun δ => ∃ a, δ = [.tuple ds, a]) ds [.tuple ds, .none] ⟨_, rfl⟩ fun x hx δ ⟨a, e⟩ => by
        subst e
        refine ⟨[.tuple ds, x], rfl, ?_⟩
        have q : bNot (bE (xCall f_is_slip (xCons (xV 1) xNil))) [.tuple ds, x] = some (!slipD x) := bN_of (bE_of (call1 (a := x) rfl (f_slip x (List.all_eq_true.mp h x hx))))
        cases hs : slipD x with
        | true => rw [hs] at q; exact .inl ⟨rfl, _, by rw [if_f q]; rfl, _, rfl⟩
        | false => rw [hs] at q; exact .inr ⟨rfl, _, by rw [if_t q]; rfl, _, rfl⟩
      rw [List.map_id'] at l
      have e2 : slipsD (.tuple ds) = ds.all slipD := by
        show (!ds.isEmpty && ds.all slipD) = _
        rw [he]; rfl
      rw [e2]
      rcases l with ⟨ha, δ', l, a, rfl⟩ | ⟨ha, δ', l, a, rfl⟩
      · refine fn_rt (δ' := [.tuple ds, a]) ?_ rfl
        show g__are_slips [.tuple ds, .none] = _
        unfold g__are_slips
        rw [pass_if c, ha]
        exact (for_nx (by rfl) l).trans (by rfl)
      · refine fn_rt (δ' := [.tuple ds, a]) ?_ rfl
        show g__are_slips [.tuple ds, .none] = _
        unfold g__are_slips
        rw [pass_if c, ha]
        exact for_rt (by rfl) l
  | _ => exact fn_rt (ret_if (or_t rfl) rfl) rfl
/-! ### lines -/
def isS : D → Bool
  | .str _ => true
  | _ => false
def linesD : D → Bool
  | .tuple ds => !ds.isEmpty && ds.all isS
  | _ => false
def noDict : D → Bool
  | .dict _ => false
  | _ => true
def plainL : D → Bool
  | .dict _ => false
  | .tuple ds => ds.all noDict
  | _ => true
theorem isi_str_e (d : D) (h : noDict d = true) : dIsi "str" d = some (.bool (isS d)) := by
  cases d <;> first | rfl | cases h
theorem f_lines (d : D) (h : plainL d = true) : f__are_lines [d] = some (.bool (linesD d), [d]) := by
  cases d with
  | dict _ => cases h
  | tuple ds =>
    have c : bOr (bNot (bE (x1 (dIsi "tuple") (xV 0)))) (bE (x2 dEq (xL oLen (xCons (xV 0) xNil)) (xK (.int 0)))) [.tuple ds, .none] = some ds.isEmpty := or_f rfl (bE_of (len0 ds))
    cases he : ds.isEmpty with
    | true =>
      refine fn_rt (δ' := [.tuple ds, .none]) ?_ rfl
      show g__are_lines [.tuple ds, .none] = _
      unfold g__are_lines
      rw [he] at c
      rw [ret_if (d := .bool false) (δ' := [.tuple ds, .none]) c rfl]
      show some (Out.rt (.bool false) _) = some (Out.rt (.bool (!ds.isEmpty && ds.all isS)) _)
      rw [he]
      rfl
    | false =>
      rw [he] at c
      have l := forL_ask (tg := gSet 1) (b := sIf (bNot (bE (x1 (dIsi "str") (xV 1)))) (sRet (xK (.bool false))) sNil) (r := .bool false) (fun d => d) isS (fun δ => ∃ a, δ = [.tuple ds, a]) ds [.tuple ds, .none] ⟨_, rfl⟩ fun x hx δ ⟨a, e⟩ => by
        subst e
        refine ⟨[.tuple ds, x], rfl, ?_⟩
        have q : bNot (bE (x1 (dIsi "str") (xV 1))) [.tuple ds, x] = some (!isS x) := bN_of (bE_of (by rw [x1_of (d := x) rfl, isi_str_e x (List.all_eq_true.mp h x hx)]))
        cases hs : isS x with
        | true => rw [hs] at q; exact .inl ⟨rfl, _, by rw [if_f q]; rfl, _, rfl⟩
        | false => rw [hs] at q; exact .inr ⟨rfl, _, by rw [if_t q]; rfl, _, rfl⟩
      rw [List.map_id'] at l
      have e2 : linesD (.tuple ds) = ds.all isS := by
        show (!ds.isEmpty && ds.all isS) = _
        rw [he]; rfl
      rw [e2]
      rcases l with ⟨ha, δ', l, a, rfl⟩ | ⟨ha, δ', l, a, rfl⟩
      · refine fn_rt (δ' := [.tuple ds, a]) ?_ rfl
        show g__are_lines [.tuple ds, .none] = _
        unfold g__are_lines
        rw [pass_if c, ha]
        exact (for_nx (by rfl) l).trans (by rfl)
      · refine fn_rt (δ' := [.tuple ds, a]) ?_ rfl
        show g__are_lines [.tuple ds, .none] = _
        unfold g__are_lines
        rw [pass_if c, ha]
        exact for_rt (by rfl) l
  | _ => exact fn_rt (ret_if (or_t rfl) rfl) rfl
/-! ### names -/
def knD (acc : List Str) : List (D × D) := acc.map fun x => (.str x, .bool true)
theorem kn_pos (acc : List Str) (x : Str) : (posD (knD acc) (.str x)).isSome = decide (x ∈ acc) := by
  induction acc with
  | nil => rfl
  | cons a acc ih =>
    show (posD ((PyData.str a, PyData.bool true) :: knD acc) _).isSome = _
    rw [posD_cons, eqv_str]
    by_cases h : a = x
    · subst h; simp
    · have h' : ¬ x = a := fun z => h z.symm
      rw [beq_eq_false_iff_ne.mpr h, if_neg Bool.false_ne_true, Option.isSome_map, ih]
      simp [h']
theorem kn_dict (acc : List Str) : dictOf (.dict (knD acc)) = some (false, knD acc) := by
  cases acc <;> rfl
def nmOk : List Str → List D → Bool
  | _, [] => true
  | acc, .str x :: ds => isN x && (!decide (x ∈ acc) && nmOk (acc ++ [x]) ds)
  | _, _ :: _ => false
theorem nm_step {ds0 : D} {a : D} {acc : List Str} {x : Str} (hn : isN x = true) (hx : x.length ≤ sizeLine) (hl : acc.length < sizeLine) (hm : x ∉ acc) :
    sSeq (sIf (bOr (bNot (bE (xCall f__is_name (xCons (xV 2) xNil)))) (bE (x2 dDIn (xV 2) (xV 1)))) (sRet (xK (.bool false))) sNil) (sPutK 1 (mOf (xK (.bool true))) (xV 2)) [ds0, .dict (knD acc), .str x] = some (.nx [ds0, .dict (knD (acc ++ [x])), .str x]) := by
  have q : bNot (bE (xCall f__is_name (xCons (xV 2) xNil))) [ds0, .dict (knD acc), .str x] = some false := by
    have := bN_of (bE_of (call1 (f := xV 2) (δ := [ds0, .dict (knD acc), .str x]) (a := .str x) rfl (f_name (.str x) (decide_eq_true hx))))
    rw [show nameD (.str x) = true from hn] at this
    exact this
  have q2 : bE (x2 dDIn (xV 2) (xV 1)) [ds0, .dict (knD acc), .str x] = some false := bE_of (by
    rw [x2_of (d := .str x) (e := .dict (knD acc)) rfl rfl]
    unfold dDIn
    rw [kn_dict, Option.bind_some]
    show some (PyData.bool (posD (knD acc) (.str x)).isSome) = _
    rw [kn_pos, decide_eq_false hm])
  rw [pass_if (or_f q q2)]
  unfold sPutK
  show (if (knD acc).length < sizeLine then some (Out.nx [ds0, .dict (putD (knD acc) (.str x) (.bool true)), .str x]) else none) = _
  rw [if_pos (by simpa [knD] using hl)]
  unfold putD
  rw [kn_pos, decide_eq_false hm, if_neg Bool.false_ne_true]
  simp [knD]
theorem nm_bad {ds0 : D} {a : D} {acc : List Str} {d : D} (hd : plainD d = true) (h : ∀ x, d = .str x → isN x = true → x ∈ acc) :
    sSeq (sIf (bOr (bNot (bE (xCall f__is_name (xCons (xV 2) xNil)))) (bE (x2 dDIn (xV 2) (xV 1)))) (sRet (xK (.bool false))) sNil) (sPutK 1 (mOf (xK (.bool true))) (xV 2)) [ds0, .dict (knD acc), d] = some (.rt (.bool false) [ds0, .dict (knD acc), d]) := by
  have q : bNot (bE (xCall f__is_name (xCons (xV 2) xNil))) [ds0, .dict (knD acc), d] = some (!nameD d) := bN_of (bE_of (call1 (f := xV 2) (δ := [ds0, .dict (knD acc), d]) (a := d) rfl (f_name d hd)))
  refine ret_if ?_ rfl
  cases hn : nameD d with
  | false => rw [hn] at q; exact or_t q
  | true =>
    rw [hn] at q
    refine or_f q (bE_of ?_)
    cases d with
    | str x =>
      rw [x2_of (d := .str x) (e := .dict (knD acc)) rfl rfl]
      unfold dDIn
      rw [kn_dict, Option.bind_some]
      show some (PyData.bool (posD (knD acc) (.str x)).isSome) = _
      rw [kn_pos, decide_eq_true (h x rfl hn)]
    | _ => cases hn
theorem nm_loop (ds0 : D) : ∀ (ds : List D) (acc : List Str) (a : D), ds.all plainD = true → acc.length + ds.length ≤ sizeLine →
    (nmOk acc ds = true ∧ ∃ δ', forL (gSet 2) (sSeq (sIf (bOr (bNot (bE (xCall f__is_name (xCons (xV 2) xNil)))) (bE (x2 dDIn (xV 2) (xV 1)))) (sRet (xK (.bool false))) sNil) (sPutK 1 (mOf (xK (.bool true))) (xV 2))) ds [ds0, .dict (knD acc), a] = some (.nx δ') ∧ δ'.take 1 = [ds0]) ∨
    (nmOk acc ds = false ∧ ∃ δ', forL (gSet 2) (sSeq (sIf (bOr (bNot (bE (xCall f__is_name (xCons (xV 2) xNil)))) (bE (x2 dDIn (xV 2) (xV 1)))) (sRet (xK (.bool false))) sNil) (sPutK 1 (mOf (xK (.bool true))) (xV 2))) ds [ds0, .dict (knD acc), a] = some (.rt (.bool false) δ') ∧ δ'.take 1 = [ds0])
  | [], acc, a, _, _ => .inl ⟨rfl, _, rfl, rfl⟩
  | d :: ds, acc, a, hp, hl => by
    rw [List.all_cons, Bool.and_eq_true] at hp
    rw [List.length_cons] at hl
    by_cases hg : ∃ x, d = .str x ∧ isN x = true ∧ x ∉ acc
    · obtain ⟨x, rfl, hn, hm⟩ := hg
      have e1 : nmOk acc (.str x :: ds) = nmOk (acc ++ [x]) ds := by
        show (isN x && (!decide (x ∈ acc) && nmOk (acc ++ [x]) ds)) = _
        rw [hn, decide_eq_false hm]; rfl
      have st := nm_step (ds0 := ds0) (a := a) hn (of_decide_eq_true hp.1) (by omega) hm
      have ih := nm_loop ds0 ds (acc ++ [x]) (.str x) hp.2 (by rw [List.length_append]; simp; omega)
      rw [e1]
      have e2 : forL (gSet 2) (sSeq (sIf (bOr (bNot (bE (xCall f__is_name (xCons (xV 2) xNil)))) (bE (x2 dDIn (xV 2) (xV 1)))) (sRet (xK (.bool false))) sNil) (sPutK 1 (mOf (xK (.bool true))) (xV 2))) (.str x :: ds) [ds0, .dict (knD acc), a] = forL (gSet 2) (sSeq (sIf (bOr (bNot (bE (xCall f__is_name (xCons (xV 2) xNil)))) (bE (x2 dDIn (xV 2) (xV 1)))) (sRet (xK (.bool false))) sNil) (sPutK 1 (mOf (xK (.bool true))) (xV 2))) ds [ds0, .dict (knD (acc ++ [x])), .str x] := by
        rw [forL]
        show ((sSeq _ _ [ds0, .dict (knD acc), .str x]).bind _) = _
        rw [st]
        rfl
      rw [e2]
      exact ih
    · have hb : ∀ x, d = .str x → isN x = true → x ∈ acc := fun x e hn => Classical.byContradiction fun hm => hg ⟨x, e, hn, hm⟩
      have e1 : nmOk acc (d :: ds) = false := by
        cases d with
        | str x =>
          show (isN x && (!decide (x ∈ acc) && nmOk (acc ++ [x]) ds)) = _
          cases hn : isN x with
          | false => rfl
          | true => rw [decide_eq_true (hb x rfl hn)]; rfl
        | _ => rfl
      have st := nm_bad (ds0 := ds0) (a := a) hp.1 hb
      refine .inr ⟨e1, [ds0, .dict (knD acc), d], ?_, rfl⟩
      rw [forL]
      show ((sSeq _ _ [ds0, .dict (knD acc), d]).bind _) = _
      rw [st]
      rfl
def namesD : D → Bool
  | .tuple ds => nmOk [] ds
  | _ => false
theorem f_names (d : D) (h : plain2 d = true) (hl : ∀ ds, d = .tuple ds → ds.length ≤ sizeLine) : f__are_names [d] = some (.bool (namesD d), [d]) := by
  cases d with
  | dict _ => cases h
  | tuple ds =>
    have c : bNot (bE (x1 (dIsi "tuple") (xV 0))) [.tuple ds, .none, .none] = some false := rfl
    have l := nm_loop (.tuple ds) ds [] .none h (by have := hl ds rfl; simpa using this)
    show f__are_names [.tuple ds] = some (.bool (nmOk [] ds), _)
    rcases l with ⟨ha, δ', l, t⟩ | ⟨ha, δ', l, t⟩
    · refine fn_rt (δ' := δ') ?_ t
      show g__are_names [.tuple ds, .none, .none] = _
      unfold g__are_names
      rw [pass_if c, set_of (d := .dict []) rfl]
      show sSeq _ _ [.tuple ds, .dict (knD []), .none] = _
      rw [ha]
      exact (for_nx (by rfl) l).trans (ret_of rfl)
    · refine fn_rt (δ' := δ') ?_ t
      show g__are_names [.tuple ds, .none, .none] = _
      unfold g__are_names
      rw [pass_if c, set_of (d := .dict []) rfl]
      show sSeq _ _ [.tuple ds, .dict (knD []), .none] = _
      rw [ha]
      exact for_rt (by rfl) l
  | _ => exact fn_rt (ret_if rfl rfl) rfl
theorem nm_true : ∀ (ws acc : List Str), (∀ x ∈ ws, isN x = true) → (acc ++ ws).Nodup → nmOk acc (ws.map .str) = true
  | [], _, _, _ => rfl
  | x :: ws, acc, h, hn => by
    show (isN x && (!decide (x ∈ acc) && nmOk (acc ++ [x]) (ws.map .str))) = true
    have hx : x ∉ acc := fun hm => (List.nodup_append.mp hn).2.2 x hm x List.mem_cons_self rfl
    rw [h x List.mem_cons_self, decide_eq_false hx, nm_true ws (acc ++ [x]) (fun y hy => h y (List.mem_cons_of_mem _ hy)) (by rw [List.append_assoc]; exact hn)]
    rfl
/-- what is put into the middle makes it no row of names -/
theorem nm_mid (d : D) : ∀ (l : List Str) (acc : List Str) (r : List D), (∀ x, d = .str x → isN x = true → x ∈ acc ++ l) → nmOk acc (l.map .str ++ d :: r) = false
  | [], acc, r, h => by
    cases d with
    | str x =>
      show (isN x && (!decide (x ∈ acc) && nmOk (acc ++ [x]) r)) = _
      cases hn : isN x with
      | false => rfl
      | true =>
        have := h x rfl hn
        rw [List.append_nil] at this
        rw [decide_eq_true this]; rfl
    | _ => rfl
  | y :: l, acc, r, h => by
    show (isN y && (!decide (y ∈ acc) && nmOk (acc ++ [y]) (l.map .str ++ d :: r))) = _
    rw [nm_mid d l (acc ++ [y]) r fun x e hn => by
      have := h x e hn
      simpa using this]
    simp
/-- twice the same -/
theorem nm_late (x : Str) : ∀ (l : List D) (acc : List Str) (r : List D), x ∈ acc → nmOk acc (l ++ .str x :: r) = false
  | [], acc, r, h => by
    show (isN x && (!decide (x ∈ acc) && nmOk (acc ++ [x]) r)) = _
    rw [decide_eq_true h]
    simp
  | d :: l, acc, r, h => by
    cases d with
    | str y =>
      show (isN y && (!decide (y ∈ acc) && nmOk (acc ++ [y]) (l ++ .str x :: r))) = _
      rw [nm_late x l (acc ++ [y]) r (List.mem_append_left _ h)]
      simp
    | _ => rfl
end LawK36

set_option linter.all false
set_option maxRecDepth 10000
namespace LawK36
open PySem Pv
/-! k36: what is refused -/
theorem try_rt {i : Nat} {g su : SF} {r : RF} {δ δ1 δ2 : List D} {xs : XD} {d : D} (h1 : g δ = none) (h2 : r δ = some (xs, δ1)) (h3 : su (δ1.set i (exD xs)) = some (.rt d δ2)) : sTry i g r su δ = some (.rt d δ2) := by
  unfold sTry
  rw [h1, h2]
  show ((su (δ1.set i (exD xs))).bind _) = _
  rw [h3]
  rfl
theorem try_ok {i : Nat} {g su : SF} {r : RF} {δ : List D} {o : Out} (h1 : g δ = some o) : sTry i g r su δ = some o := by
  unfold sTry
  rw [h1]
def refX (t : Str) : XD := [("word", .str t), ("at", .int (-1))]
def suR : SF := sRet (xAnd (xIsE 4 true) (xAnd (xIsE 4 true) (xCall (f__law_same 6) (xCons (xL mkTup (xCons (x1 (dFld "word") (xV 4)) (xCons (x1 (dFld "at") (xV 4)) xNil))) (xCons (xL mkTup (xCons (xV 3) (xCons (x1 dNeg (xK (.int 1))) xNil))) xNil)))))
theorem su_e {w x y : D} {t : Str} (ht : PyData.strOk t = true) : suR [w, x, y, .str t, exD (refX t)] = some (.rt (.bool true) [w, x, y, .str t, exD (refX t)]) := by
  unfold suR
  refine ret_of (xand_k (k := true) rfl fun _ => xand_k (k := true) rfl fun _ => sm (d := .tuple [.str t, .int (-1)]) ?_ ?_ ?_)
  · exact tp2 (by rfl) (by rfl)
  · exact tp2 rfl rfl
  · rw [okS_t]
    show (decide (2 ≤ sizeLine) && (PyData.strOk t && (true && true))) = true
    rw [ht, decide_eq_true (by have := size_le; omega)]
    rfl
theorem ref_of {w x y : D} {t : Str} {A : SF} {R : RF} (ht : PyData.strOk t = true) (h1 : A [w, x, y, .str t, .none] = none) (h2 : R [w, x, y, .str t, .none] = some (refX t, [w, x, y, .str t, .none])) :
    fnF 1 false (sSeq (sTry 4 A R suR) (sRet (xK (.bool false)))) [w, x, y, .str t] = some (.bool true, [w, x, y, .str t]) :=
  fn_rt (δ' := [w, x, y, .str t, exD (refX t)]) (sSeq_rt (try_rt h1 h2 (su_e ht))) rfl
theorem rfR_e {δ : List D} {f1 f2 : Str} {f g : EF} {a b : D} (h1 : f δ = some a) (h2 : g δ = some b) : rfR f1 f2 (xCons f (xCons g xNil)) δ = some ([(f1, a), (f2, b)], δ) := by
  unfold rfR
  rw [xCons_e, h1, Option.bind_some, xCons_e, h2]
  rfl
theorem rfC_e {f : List D → Option XD} {δ ds : List D} {fa : LF} {xs : XD} (h1 : fa δ = some ds) (h2 : f ds = some xs) : rfC f fa δ = some (xs, δ) := by
  unfold rfC
  rw [h1, Option.bind_some, h2]
  rfl
theorem rfIf_t {c : BF} {r s : RF} {δ : List D} (h : c δ = some true) : rfIf c r s δ = r δ := by unfold rfIf; rw [h]; rfl
theorem rfIf_f {c : BF} {r s : RF} {δ : List D} (h : c δ = some false) : rfIf c r s δ = s δ := by unfold rfIf; rw [h]; rfl
theorem fnR_e {nl : Nat} {r : RF} {ds δ' : List D} {xs : XD} (h : r (ds ++ List.replicate nl .none) = some (xs, δ')) : fnR nl r ds = some xs := by unfold fnR; rw [h]; rfl
theorem strOk_lit {s : Str} (h : PyData.strOk s = true) : PyData.strOk s = true := h
theorem isI {δ : List D} {n m : Int} {w : D} (h : δ[0]? = some (.int n)) : bE (x2 dEq (xV 0) (xK (.int m))) δ = some (n == m) := bE_of (by rw [x2_of (d := .int n) (e := .int m) h rfl, dEq_e])
/-! ### slips -/
theorem slipsN {d : D} {r : List D} (h : plain3 d = true) (hs : slipsD d = false) : bNot (bE (xCall f__are_slips (xCons (xV 0) xNil))) (d :: r) = some true := by
  have := bN_of (bE_of (call1 (f := xV 0) (δ := d :: r) (a := d) rfl (f_slips d h)))
  rw [hs] at this
  exact this
theorem heap_no {d : D} (h : plain3 d = true) (hs : slipsD d = false) : f_heap_of [d] = none := by
  refine fn_no ?_
  show g_heap_of [d, .none, .none, .none, .none] = _
  unfold g_heap_of
  exact no_if (slipsN h hs) rfl
theorem heap_r {d : D} (h : plain3 d = true) (hs : slipsD d = false) : r_heap_of_NotUsable [d] = some (refX "slips") := by
  refine fnR_e (δ' := [d, .none, .none, .none, .none]) ?_
  show rg_heap_of_NotUsable [d, .none, .none, .none, .none] = _
  unfold rg_heap_of_NotUsable
  rw [rfIf_t (slipsN h hs)]
  exact rfR_e rfl rfl
theorem slines_no {d : D} (h : plain3 d = true) (hs : slipsD d = false) : f_slip_lines [d] = none := by
  refine fn_no ?_
  show g_slip_lines [d, .none, .none] = _
  unfold g_slip_lines
  exact no_if (slipsN h hs) rfl
theorem slines_r {d : D} (h : plain3 d = true) (hs : slipsD d = false) : r_slip_lines_NotUsable [d] = some (refX "slips") := by
  refine fnR_e (δ' := [d, .none, .none]) ?_
  show rg_slip_lines_NotUsable [d, .none, .none] = _
  unfold rg_slip_lines_NotUsable
  rw [rfIf_t (slipsN h hs)]
  exact rfR_e rfl rfl
theorem drop_no {δ : List D} {f : EF} (h : f δ = none) : sDrop (mOf f) δ = none := by rw [sDrop_e, mOf_e, h]; rfl
theorem f_ref0 {d : D} (h : plain3 d = true) (hs : slipsD d = false) : f__law_refused [.int 0, d, .int 0, .str "slips"] = some (.bool true, [.int 0, d, .int 0, .str "slips"]) := by
  refine ref_of (by decide +kernel) ?_ ?_
  · rw [if_t (isI (w := .none) (n := 0) rfl)]
    exact drop_no (call1N (a := d) rfl (heap_no h hs))
  · rw [rfIf_t (isI (w := .none) (n := 0) rfl)]
    exact rfC_e (ds := [d]) rfl (heap_r h hs)
theorem f_ref1 {d : D} (h : plain3 d = true) (hs : slipsD d = false) : f__law_refused [.int 1, d, .int 0, .str "slips"] = some (.bool true, [.int 1, d, .int 0, .str "slips"]) := by
  refine ref_of (by decide +kernel) ?_ ?_
  · rw [if_f (isI (w := .none) (n := 1) rfl), if_t (isI (w := .none) (n := 1) rfl)]
    exact drop_no (call1N (a := d) rfl (slines_no h hs))
  · rw [rfIf_f (isI (w := .none) (n := 1) rfl), rfIf_t (isI (w := .none) (n := 1) rfl)]
    exact rfC_e (ds := [d]) rfl (slines_r h hs)
/-! ### lines -/
theorem linesN {d : D} {r : List D} (h : plainL d = true) (hs : linesD d = false) : bNot (bE (xCall f__are_lines (xCons (xV 0) xNil))) (d :: r) = some true := by
  have := bN_of (bE_of (call1 (f := xV 0) (δ := d :: r) (a := d) rfl (f_lines d h)))
  rw [hs] at this
  exact this
theorem linesY {d : D} {r : List D} (h : plainL d = true) (hs : linesD d = true) : bNot (bE (xCall f__are_lines (xCons (xV 0) xNil))) (d :: r) = some false := by
  have := bN_of (bE_of (call1 (f := xV 0) (δ := d :: r) (a := d) rfl (f_lines d h)))
  rw [hs] at this
  exact this
theorem read_no {d : D} (h : plainL d = true) (hs : linesD d = false) : f_read_slips [d] = none := by
  refine fn_no ?_
  show g_read_slips [d, .none, .none, .none, .none] = _
  unfold g_read_slips
  exact no_if (linesN h hs) rfl
theorem read_r {d : D} (h : plainL d = true) (hs : linesD d = false) : r_read_slips_NotUsable [d] = some (refX "lines") := by
  refine fnR_e (δ' := [d, .none, .none, .none, .none]) ?_
  show rg_read_slips_NotUsable [d, .none, .none, .none, .none] = _
  unfold rg_read_slips_NotUsable
  rw [rfIf_t (linesN h hs)]
  exact rfR_e rfl rfl
theorem f_ref2 {d : D} (h : plainL d = true) (hs : linesD d = false) : f__law_refused [.int 2, d, .int 0, .str "lines"] = some (.bool true, [.int 2, d, .int 0, .str "lines"]) := by
  refine ref_of (by decide +kernel) ?_ ?_
  · rw [if_f (isI (w := .none) (n := 2) rfl), if_f (isI (w := .none) (n := 2) rfl), if_t (isI (w := .none) (n := 2) rfl)]
    exact drop_no (call1N (a := d) rfl (read_no h hs))
  · rw [rfIf_f (isI (w := .none) (n := 2) rfl), rfIf_f (isI (w := .none) (n := 2) rfl), rfIf_t (isI (w := .none) (n := 2) rfl)]
    exact rfC_e (ds := [d]) rfl (read_r h hs)
/-! ### names -/
/-- d are names for n words -/
def nmsD (n : Nat) (d : D) : Bool := namesD d && match d with
  | .tuple ds => decide (ds.length = n)
  | _ => false
theorem nmsC {d : D} {lv : D} {n : Nat} {r : List D} (h : plain2 d = true) (hl : ∀ ds, d = .tuple ds → ds.length ≤ sizeLine) :
    bOr (bNot (bE (xCall f__are_names (xCons (xV 0) xNil)))) (bE (x2 dNe (xL oLen (xCons (xV 0) xNil)) (xV 2))) (d :: lv :: .int n :: r) = some (!nmsD n d) := by
  have q := bN_of (bE_of (call1 (f := xV 0) (δ := d :: lv :: .int n :: r) (a := d) rfl (f_names d h hl)))
  unfold nmsD
  cases hn : namesD d with
  | false => rw [hn] at q; rw [or_t q]; rfl
  | true =>
    rw [hn] at q
    cases d with
    | tuple ds =>
      refine or_f q (bE_of ?_)
      rw [x2_of (d := .int ds.length) (e := .int n) rfl rfl, dNe_e]
      congr 3
      rw [Bool.eq_iff_iff]
      simp
      omega
    | _ => cases hn
def heapD (n : Nat) (lv : List D) : D := .tuple [.int n, .tuple lv]
theorem slof_no {d : D} {n : Nat} {lv : List D} (h : plain2 d = true) (hl : ∀ ds, d = .tuple ds → ds.length ≤ sizeLine) (hs : nmsD n d = false) : f_slips_of [d, heapD n lv] = none := by
  refine fn_no ?_
  show g_slips_of [d, heapD n lv, .none, .none, .none, .none] = _
  unfold g_slips_of
  rw [sSeq_nx (δ' := [d, heapD n lv, .int n, .tuple lv, .none, .none]) rfl]
  refine no_if ?_ rfl
  rw [nmsC h hl, hs]
  rfl
theorem slof_r {d : D} {n : Nat} {lv : List D} (h : plain2 d = true) (hl : ∀ ds, d = .tuple ds → ds.length ≤ sizeLine) (hs : nmsD n d = false) : r_slips_of_NotUsable [d, heapD n lv] = some (refX "names") := by
  refine fnR_e (δ' := [d, heapD n lv, .int n, .tuple lv, .none, .none]) ?_
  show rg_slips_of_NotUsable [d, heapD n lv, .none, .none, .none, .none] = _
  unfold rg_slips_of_NotUsable rfCons
  show rfIf _ _ _ [d, heapD n lv, .int n, .tuple lv, .none, .none] = _
  rw [rfIf_t (by rw [nmsC h hl, hs]; rfl)]
  exact rfR_e rfl rfl
theorem f_ref3 {d : D} {n : Nat} {lv : List D} (h : plain2 d = true) (hl : ∀ ds, d = .tuple ds → ds.length ≤ sizeLine) (hs : nmsD n d = false) : f__law_refused [.int 3, d, heapD n lv, .str "names"] = some (.bool true, [.int 3, d, heapD n lv, .str "names"]) := by
  refine ref_of (by decide +kernel) ?_ ?_
  · rw [if_f (isI (w := .none) (n := 3) rfl), if_f (isI (w := .none) (n := 3) rfl), if_f (isI (w := .none) (n := 3) rfl)]
    exact drop_no (call2N (a := d) (b := heapD n lv) rfl rfl (slof_no h hl hs))
  · rw [rfIf_f (isI (w := .none) (n := 3) rfl), rfIf_f (isI (w := .none) (n := 3) rfl), rfIf_f (isI (w := .none) (n := 3) rfl)]
    exact rfC_e (ds := [d, heapD n lv]) rfl (slof_r h hl hs)
end LawK36

set_option linter.all false
set_option maxRecDepth 10000
namespace LawK36
open PySem Pv
/-! k36: lines parted -/
def mkS (l : List Nat) : Str := ⟨l.toArray⟩
theorem mkS_tl (l : List Nat) : TL.tl (mkS l) = l := rfl
theorem tl_mkS (x : Str) : mkS (TL.tl x) = x := TL.mk_tl x
theorem mkS_app (a b : List Nat) : mkS (a ++ b) = mkS a ++ mkS b := TL.ext_tl (by rw [TL.tl_append, mkS_tl, mkS_tl, mkS_tl])
theorem mkS_len (l : List Nat) : (mkS l).length = l.length := by rw [slen, mkS_tl]
theorem sp_mk : (Str.ofString " ") = mkS [32] := by decide +kernel
theorem em_mk : (Str.ofString "") = mkS [] := by decide +kernel
/-- parted at each blank -/
def cut : List Nat → List Nat → List (List Nat)
  | acc, [] => [acc]
  | acc, c :: r => if c = 32 then acc :: cut [] r else cut (acc ++ [c]) r
theorem spl_cut : ∀ (l acc : List Nat), TL.spl [32] 0 acc l = cut acc l
  | [], acc => by rw [TL.spl_nil]; rfl
  | c :: r, acc => by
    rw [cut]
    by_cases h : c = 32
    · rw [if_pos h, TL.spl_hit (by subst h; rfl)]
      show acc :: TL.spl [32] 0 [] r = _
      rw [spl_cut r []]
    · rw [if_neg h, TL.spl_miss (by show (([c] : List Nat) == [32]) = false; simpa using h), spl_cut r]
def splS (x : Str) : List Str := Txt.split x (Str.ofString " ")
theorem splS_cut (x : Str) : splS x = (cut [] (TL.tl x)).map mkS := by
  refine TL.map_tl_inj ?_
  have hy : TL.tl (Str.ofString " ") ≠ [] := by rw [sp_mk]; decide
  have hk : ¬ Builtin.Str.strKind x < Builtin.Str.strKind (Str.ofString " ") := TL.kind_ok (by decide +kernel)
  unfold splS
  rw [TL.split_spl x _ hy hk]
  have e : TL.tl (Str.ofString " ") = [32] := by rw [sp_mk]; rfl
  rw [e, spl_cut, List.map_map]
  have : (TL.tl ∘ mkS) = id := by funext l; rfl
  rw [this, List.map_id]
theorem cut_mem : ∀ (l acc : List Nat) (p : List Nat) (c : Nat), p ∈ cut acc l → c ∈ p → c ∈ acc ∨ c ∈ l
  | [], acc, p, c, h, hc => by
    have : p = acc := by simpa [cut] using h
    exact .inl (this ▸ hc)
  | d :: r, acc, p, c, h, hc => by
    rw [cut] at h
    split at h
    · rcases List.mem_cons.mp h with e | h
      · exact .inl (e ▸ hc)
      · rcases cut_mem r [] p c h hc with q | q
        · cases q
        · exact .inr (List.mem_cons_of_mem _ q)
    · rcases cut_mem r (acc ++ [d]) p c h hc with q | q
      · rcases List.mem_append.mp q with q | q
        · exact .inl q
        · have : c = d := by simpa using q
          exact .inr (this ▸ List.mem_cons_self)
      · exact .inr (List.mem_cons_of_mem _ q)
theorem cut_len : ∀ (l acc : List Nat) (p : List Nat), p ∈ cut acc l → p.length ≤ acc.length + l.length
  | [], acc, p, h => by
    have : p = acc := by simpa [cut] using h
    rw [this]; simp
  | d :: r, acc, p, h => by
    rw [cut] at h
    rw [List.length_cons]
    split at h
    · rcases List.mem_cons.mp h with e | h
      · rw [e]; omega
      · have := cut_len r [] p h
        simp at this
        omega
    · have := cut_len r (acc ++ [d]) p h
      rw [List.length_append] at this
      simp at this
      omega
theorem cut_free : ∀ (l acc : List Nat), 32 ∉ l → cut acc l = [acc ++ l]
  | [], acc, _ => by simp [cut]
  | c :: r, acc, h => by
    rw [cut, if_neg (fun e => h (by rw [e]; exact List.mem_cons_self)), cut_free r _ fun z => h (List.mem_cons_of_mem _ z)]
    simp
theorem cut_two : ∀ (a acc b : List Nat), 32 ∉ a → 32 ∉ b → cut acc (a ++ 32 :: b) = [acc ++ a, b]
  | [], acc, b, _, hb => by
    rw [List.nil_append, cut, if_pos rfl, cut_free b [] hb]; simp
  | c :: a, acc, b, ha, hb => by
    rw [List.cons_append, cut, if_neg (fun e => ha (by rw [e]; exact List.mem_cons_self)), cut_two a _ b (fun z => ha (List.mem_cons_of_mem _ z)) hb]
    simp
theorem ok_iff {x : Str} : PyData.strOk x = true ↔ ∀ c ∈ TL.tl x, c < 0x110000 := by
  unfold PyData.strOk
  rw [Array.all_eq_true']
  simp [TL.tl]
theorem splS_ok {x p : Str} (h : PyData.strOk x = true) (hp : p ∈ splS x) : PyData.strOk p = true ∧ p.length ≤ x.length := by
  rw [splS_cut] at hp
  obtain ⟨q, hq, rfl⟩ := List.mem_map.mp hp
  refine ⟨ok_iff.mpr fun c hc => ?_, ?_⟩
  · rcases cut_mem _ _ _ _ hq hc with z | z
    · cases z
    · exact ok_iff.mp h c z
  · have := cut_len _ _ _ hq
    rw [mkS_len, slen]
    simpa using this
/-! ### the law's own parts -/
def sD (l : List Nat) : D := .str (mkS l)
def ptB : SF := sIf (bE (x2 dEq (xV 2) (xK (.str " ")))) (sDrop (xApp 1 (mOf (xK (.str ""))))) (sSetIx 1 (mOf (x2 dAdd (x2 dIx (xV 1) (x1 dNeg (xK (.int 1)))) (xV 2))) (x1 dNeg (xK (.int 1))))
theorem last_ix {α : Type} (l : List α) (a : α) : L2.ixN (l ++ [a]).length (-1) = some l.length := by
  unfold L2.ixN
  rw [List.length_append, List.length_singleton, if_neg (by omega), if_pos (by omega)]
  congr 1
  omega
theorem last_at {α : Type} (l : List α) (a : α) : L2.atI (l ++ [a]) (-1) = some a := by
  unfold L2.atI
  rw [last_ix]
  simp
theorem pt_loop (x : D) : ∀ (l : List Nat) (ps : List (List Nat)) (acc : List Nat) (a : D), (∀ c ∈ l, c < 0x110000) → ps.length + 1 + l.length < sizeLine → acc.length + l.length ≤ sizeLine →
    ∃ a', forL (gSet 2) ptB (l.map fun c => .str ⟨#[c]⟩) [x, .list ((ps ++ [acc]).map sD), a] = some (.nx [x, .list ((ps ++ cut acc l).map sD), a'])
  | [], ps, acc, a, _, _, _ => ⟨a, rfl⟩
  | c :: r, ps, acc, a, h, h1, h2 => by
    rw [List.length_cons] at h1 h2
    have hc : PyData.strOk (mkS [c]) = true := ok_iff.mpr fun d hd => by
      have : d = c := by simpa [mkS_tl] using hd
      rw [this]
      exact h c List.mem_cons_self
    have q : bE (x2 dEq (xV 2) (xK (.str " "))) [x, .list ((ps ++ [acc]).map sD), .str (mkS [c])] = some (decide (c = 32)) := bE_of (by
      rw [x2_of (d := .str (mkS [c])) (e := .str (Str.ofString " ")) rfl rfl, dEq_str hc (by decide +kernel), sp_mk]
      congr 2
      rw [Bool.eq_iff_iff]
      simp [mkS])
    rw [cut, List.map_cons, forL]
    show ∃ a', ((ptB [x, .list ((ps ++ [acc]).map sD), .str (mkS [c])]).bind _) = _
    by_cases hh : c = 32
    · rw [if_pos hh]
      rw [decide_eq_true hh] at q
      have e : ptB [x, .list ((ps ++ [acc]).map sD), .str (mkS [c])] = some (.nx [x, .list ((ps ++ [acc] ++ [[]]).map sD), .str (mkS [c])]) := by
        unfold ptB
        rw [if_t q, drop_e (app_e (y := .str "") (ds := (ps ++ [acc]).map sD) rfl rfl (by rw [List.length_map, List.length_append]; simp; omega))]
        rw [List.map_append (l₂ := [[]])]
        show some (Out.nx [x, .list ((ps ++ [acc]).map sD ++ [.str (Str.ofString "")]), .str (mkS [c])]) = _
        rw [em_mk]
        rfl
      rw [e]
      obtain ⟨a', ih⟩ := pt_loop x r (ps ++ [acc]) [] (.str (mkS [c])) (fun d hd => h d (List.mem_cons_of_mem _ hd)) (by rw [List.length_append]; simp; omega) (by simp; omega)
      refine ⟨a', ?_⟩
      rw [List.append_assoc ps [acc] (cut [] r), List.singleton_append] at ih
      exact ih
    · rw [if_neg hh]
      rw [decide_eq_false hh] at q
      have e : ptB [x, .list ((ps ++ [acc]).map sD), .str (mkS [c])] = some (.nx [x, .list ((ps ++ [acc ++ [c]]).map sD), .str (mkS [c])]) := by
        unfold ptB
        rw [if_f q]
        have el : (ps ++ [acc]).map sD = ps.map sD ++ [sD acc] := by simp
        have e1 : x2 dAdd (x2 dIx (xV 1) (x1 dNeg (xK (.int 1)))) (xV 2) [x, .list ((ps ++ [acc]).map sD), .str (mkS [c])] = some (sD (acc ++ [c])) := by
          have e2 : x2 dIx (xV 1) (x1 dNeg (xK (.int 1))) [x, .list ((ps ++ [acc]).map sD), .str (mkS [c])] = some (sD acc) := by
            rw [x2_of (d := .list ((ps ++ [acc]).map sD)) (e := .int (-1)) rfl rfl, dIx_l, el]
            exact last_at _ _
          rw [x2_of (d := .str (mkS acc)) (e := .str (mkS [c])) e2 rfl, dAdd_str (by rw [mkS_len, mkS_len]; simp; omega), ← mkS_app]
          rfl
        unfold sSetIx
        rw [mOf_e, e1]
        show (getL [x, .list ((ps ++ [acc]).map sD), .str (mkS [c])] 1).bind (fun ds => (L2.ixN ds.length (-1)).bind fun n => some (Out.nx [x, .list (ds.set n (sD (acc ++ [c]))), .str (mkS [c])])) = _
        rw [getL_e (ds := (ps ++ [acc]).map sD) rfl, Option.bind_some, el, last_ix]
        show some (Out.nx [x, .list ((ps.map sD ++ [sD acc]).set (ps.map sD).length (sD (acc ++ [c]))), .str (mkS [c])]) = _
        simp
      rw [e]
      exact pt_loop x r ps (acc ++ [c]) (.str (mkS [c])) (fun d hd => h d (List.mem_cons_of_mem _ hd)) (by omega) (by rw [List.length_append]; simp; omega)
theorem f_parts {x : Str} (h : PyData.strOk x = true) (hl : x.length + 2 ≤ sizeLine) : f__law_parts [.str x] = some (.list ((splS x).map .str), [.str x]) := by
  have hlt := hl
  rw [slen] at hlt
  obtain ⟨a', l⟩ := pt_loop (.str x) (TL.tl x) [] [] .none (ok_iff.mp h) (by rw [List.length_nil]; omega) (by rw [List.length_nil]; omega)
  refine fn_rt (δ' := [.str x, .list ((splS x).map .str), a']) ?_ rfl
  show g__law_parts [.str x, .none, .none] = _
  unfold g__law_parts
  rw [set_of (d := .list [sD []]) (by rw [xL1 (d := .str (Str.ofString "")) rfl, em_mk]; exact mkL _ (by simp))]
  show sSeq _ _ [.str x, .list [sD []], .none] = _
  have e : (splS x).map PyData.str = ([] ++ cut [] (TL.tl x)).map sD := by
    rw [splS_cut, List.map_map]; rfl
  rw [e]
  exact (for_nx (by rfl) l).trans (ret_of rfl)
end LawK36

set_option linter.all false
set_option maxRecDepth 10000
namespace LawK36
open PySem Pv
/-! k36: lines read -/
abbrev emS : Str := Str.ofString ""
/-- what is wrong with a line: none, or its field -/
def jd (r : Str) : Option Int := match splS r with
  | [a, b] => if a = emS then some 0 else if b = emS then some 1 else none
  | _ => some (-1)
def pr1 (r : Str) : Str × Str := match splS r with
  | [a, b] => (a, b)
  | _ => (r, r)
def pairD (p : Str × Str) : D := .tuple [.str p.1, .str p.2]
def rdBad : Nat → List Str → Option (Nat × Int)
  | _, [] => none
  | k, r :: rs => match jd r with
    | some i => some (k, i)
    | none => rdBad (k + 1) rs
/-- a line that may be parted -/
structure Ln (r : Str) : Prop where
  ok : PyData.strOk r = true
  len : r.length + 2 ≤ sizeLine
abbrev strD (l : List Str) : D := .list (l.map .str)
def badD (k : Nat) (i : Int) : D := .tuple [.str "bad", .int k, .int i]
def lrB : SF := sSeq (sSet 3 (xCall f__law_parts (xCons (x2 dIx (xV 0) (xV 2)) xNil))) (sSeq (sIf (bE (x2 dNe (xL oLen (xCons (xV 3) xNil)) (xK (.int 2)))) (sRet (xL mkTup (xCons (xK (.str "bad")) (xCons (xV 2) (xCons (x1 dNeg (xK (.int 1))) xNil))))) sNil) (sSeq (sIf (bE (x2 dEq (x2 dIx (xV 3) (xK (.int 0))) (xK (.str "")))) (sRet (xL mkTup (xCons (xK (.str "bad")) (xCons (xV 2) (xCons (xK (.int 0)) xNil))))) sNil) (sSeq (sIf (bE (x2 dEq (x2 dIx (xV 3) (xK (.int 1))) (xK (.str "")))) (sRet (xL mkTup (xCons (xK (.str "bad")) (xCons (xV 2) (xCons (xK (.int 1)) xNil))))) sNil) (sDrop (xApp 1 (mOf (xL mkTup (xCons (x2 dIx (xV 3) (xK (.int 0))) (xCons (x2 dIx (xV 3) (xK (.int 1))) xNil)))))))))
theorem lr_set {R o : D} {k : Nat} {a : D} {r : Str} {t : SF} (hr : dIx R (.int k) = some (.str r)) (h : Ln r) :
    sSeq (sSet 3 (xCall f__law_parts (xCons (x2 dIx (xV 0) (xV 2)) xNil))) t [R, o, .int k, a] = t [R, o, .int k, strD (splS r)] :=
  set_of (call1 (a := .str r) (by rw [x2_of (d := R) (e := .int k) rfl rfl, hr]) (f_parts h.ok h.len))
theorem ne2 {δ : List D} {i : Nat} {l : List Str} (h : δ[i]? = some (strD l)) : bE (x2 dNe (xL oLen (xCons (xV i) xNil)) (xK (.int 2))) δ = some (!decide (l.length = 2)) := bE_of (by
  rw [x2_of (d := .int ((l.map PyData.str).length : Nat)) (e := .int 2) (by rw [xL1 (d := strD l) h]; rfl) rfl, dNe_e, List.length_map]
  congr 3
  rw [Bool.eq_iff_iff]
  simp
  omega)
theorem eq_em {δ : List D} {f : EF} {x : Str} (h : f δ = some (.str x)) (hx : PyData.strOk x = true) : bE (x2 dEq f (xK (.str ""))) δ = some (decide (x = emS)) := bE_of (by
  rw [x2_of (d := .str x) (e := .str emS) h rfl, dEq_str hx (by decide +kernel)]
  congr 2)
theorem jd2 {r a b : Str} (e : splS r = [a, b]) : jd r = if a = emS then some 0 else if b = emS then some 1 else none := by unfold jd; rw [e]
theorem jdn {r : Str} (e : (splS r).length ≠ 2) : jd r = some (-1) := by
  unfold jd
  match hs : splS r with
  | [a, b] => rw [hs] at e; exact absurd rfl e
  | [] => rfl
  | [_] => rfl
  | _ :: _ :: _ :: _ => rfl
theorem pr2 {r a b : Str} (e : splS r = [a, b]) : pr1 r = (a, b) := by unfold pr1; rw [e]
theorem two_of {α : Type} {l : List α} (h : l.length = 2) : ∃ a b, l = [a, b] := by
  match l, h with
  | [a, b], _ => exact ⟨a, b, rfl⟩
theorem pt_ok {r a b : Str} (h : Ln r) (e : splS r = [a, b]) : PyData.strOk a = true ∧ PyData.strOk b = true := ⟨(splS_ok h.ok (by rw [e]; simp)).1, (splS_ok h.ok (by rw [e]; simp)).1⟩
theorem lr_none {R : D} {out : List D} {k : Nat} {a0 : D} {r : Str} (hr : dIx R (.int k) = some (.str r)) (h : Ln r) (hj : jd r = none) (hl : out.length < sizeLine) :
    lrB [R, .list out, .int k, a0] = some (.nx [R, .list (out ++ [pairD (pr1 r)]), .int k, strD (splS r)]) := by
  have h2 : (splS r).length = 2 := Classical.byContradiction fun z => by rw [jdn z] at hj; cases hj
  obtain ⟨a, b, e⟩ := two_of h2
  obtain ⟨oa, ob⟩ := pt_ok h e
  rw [jd2 e] at hj
  have na : a ≠ emS := fun z => by rw [if_pos z] at hj; cases hj
  rw [if_neg na] at hj
  have nb : b ≠ emS := fun z => by rw [if_pos z] at hj; cases hj
  unfold lrB
  rw [lr_set hr h, e]
  have p0 : x2 dIx (xV 3) (xK (.int 0)) [R, .list out, .int k, strD [a, b]] = some (.str a) := by rw [x2_of (d := strD [a, b]) (e := .int 0) rfl rfl]; exact at0 _ _
  have p1 : x2 dIx (xV 3) (xK (.int 1)) [R, .list out, .int k, strD [a, b]] = some (.str b) := by rw [x2_of (d := strD [a, b]) (e := .int 1) rfl rfl]; exact at1 _ _ _
  rw [pass_if (by rw [ne2 (i := 3) (l := [a, b]) rfl]; rfl), pass_if (by rw [eq_em p0 oa, decide_eq_false na]), pass_if (by rw [eq_em p1 ob, decide_eq_false nb]), pr2 e]
  exact drop_e (app_e (tp2 p0 p1) rfl hl)
theorem lr_some {R o : D} {k : Nat} {a0 : D} {r : Str} {i : Int} (hr : dIx R (.int k) = some (.str r)) (h : Ln r) (hj : jd r = some i) :
    lrB [R, o, .int k, a0] = some (.rt (badD k i) [R, o, .int k, strD (splS r)]) := by
  unfold lrB
  rw [lr_set hr h]
  by_cases h2 : (splS r).length = 2
  · obtain ⟨a, b, e⟩ := two_of h2
    obtain ⟨oa, ob⟩ := pt_ok h e
    rw [jd2 e] at hj
    rw [e]
    have p0 : x2 dIx (xV 3) (xK (.int 0)) [R, o, .int k, strD [a, b]] = some (.str a) := by rw [x2_of (d := strD [a, b]) (e := .int 0) rfl rfl]; exact at0 _ _
    have p1 : x2 dIx (xV 3) (xK (.int 1)) [R, o, .int k, strD [a, b]] = some (.str b) := by rw [x2_of (d := strD [a, b]) (e := .int 1) rfl rfl]; exact at1 _ _ _
    rw [pass_if (by rw [ne2 (i := 3) (l := [a, b]) rfl]; rfl)]
    by_cases ea : a = emS
    · rw [if_pos ea] at hj
      cases hj
      exact ret_if (by rw [eq_em p0 oa, decide_eq_true ea]) (ret_of (tp3 rfl rfl rfl))
    · rw [if_neg ea] at hj
      rw [pass_if (by rw [eq_em p0 oa, decide_eq_false ea])]
      by_cases eb : b = emS
      · rw [if_pos eb] at hj
        cases hj
        exact ret_if (by rw [eq_em p1 ob, decide_eq_true eb]) (ret_of (tp3 rfl rfl rfl))
      · rw [if_neg eb] at hj
        cases hj
  · rw [jdn h2] at hj
    cases hj
    exact ret_if (by rw [ne2 (i := 3) (l := splS r) rfl, decide_eq_false h2]; rfl) (ret_of (tp3 rfl rfl rfl))
theorem lr_loop (rows : List Str) (hr : ∀ r ∈ rows, Ln r) : ∀ (rest pre : List Str) (out : List D) (a b : D), rows = pre ++ rest → out.length + rest.length ≤ sizeLine →
    (rdBad pre.length rest = none ∧ ∃ a' b', forL (gSet 2) lrB ((List.range' pre.length rest.length).map fun k => PyData.int ((k : Nat) : Int)) [strD rows, .list out, a, b] = some (.nx [strD rows, .list (out ++ rest.map fun r => pairD (pr1 r)), a', b'])) ∨
    (∃ k i, rdBad pre.length rest = some (k, i) ∧ ∃ o' a' b', forL (gSet 2) lrB ((List.range' pre.length rest.length).map fun k => PyData.int ((k : Nat) : Int)) [strD rows, .list out, a, b] = some (.rt (badD k i) [strD rows, o', a', b']))
  | [], pre, out, a, b, _, _ => .inl ⟨rfl, a, b, by rw [List.map_nil, List.append_nil]; rfl⟩
  | r :: rest, pre, out, a, b, e, hl => by
    rw [List.length_cons] at hl
    have hg : dIx (strD rows) (.int (pre.length : Nat)) = some (.str r) := by
      rw [dIx_l]
      refine atI_of ?_
      rw [List.getElem?_map, e, List.getElem?_append_right (Nat.le_refl _), Nat.sub_self]
      rfl
    have ln : Ln r := hr r (by rw [e]; simp)
    rw [rdBad]
    have er : (List.range' pre.length (r :: rest).length).map (fun k => PyData.int ((k : Nat) : Int)) = .int pre.length :: (List.range' (pre ++ [r]).length rest.length).map fun k => PyData.int ((k : Nat) : Int) := by
      rw [List.length_cons, List.range'_succ, List.map_cons, List.length_append, List.length_singleton]
    rw [er]
    cases hj : jd r with
    | some i => exact .inr ⟨_, _, rfl, .list out, .int pre.length, strD (splS r), forL_crt (δ1 := [strD rows, .list out, .int pre.length, b]) rfl (lr_some hg ln hj)⟩
    | none =>
      have st := lr_none (out := out) (a0 := b) hg ln hj (by omega)
      have ih := lr_loop rows hr rest (pre ++ [r]) (out ++ [pairD (pr1 r)]) (.int pre.length) (strD (splS r)) (by rw [e]; simp) (by rw [List.length_append]; simp; omega)
      have el : (pre ++ [r]).length = pre.length + 1 := by simp
      rw [forL_cnx (δ1 := [strD rows, .list out, .int pre.length, b]) rfl st]
      have em : out ++ (r :: rest).map (fun r => pairD (pr1 r)) = out ++ [pairD (pr1 r)] ++ rest.map fun r => pairD (pr1 r) := by simp
      rw [em]
      rw [el] at ih
      rw [el]
      exact ih
def goodD (rows : List Str) : D := .tuple [.str "good", .tuple (rows.map fun r => pairD (pr1 r))]
def readD (rows : List Str) : D := match rdBad 0 rows with
  | some (k, i) => badD k i
  | none => goodD rows
theorem f_lread {rows : List Str} (hr : ∀ r ∈ rows, Ln r) (hl : rows.length ≤ sizeLine) : f__law_read [strD rows] = some (readD rows, [strD rows]) := by
  have er : rngD 0 rows.length = (List.range' ([] : List Str).length rows.length).map fun k => PyData.int ((k : Nat) : Int) := by
    rw [rng_map, List.range_eq_range']; rfl
  have hs : lOf rng1 (xCons (xL oLen (xCons (xV 0) xNil)) xNil) [strD rows, .list [], .none, .none] = some (rngD 0 rows.length) := rng_of (by
    rw [xL1 (d := strD rows) rfl]
    show some (PyData.int ((rows.map PyData.str).length : Nat)) = _
    rw [List.length_map]) hl
  unfold readD
  rcases lr_loop rows hr rows [] [] .none .none rfl (by simpa using hl) with ⟨e, a', b', l⟩ | ⟨k, i, e, o', a', b', l⟩
  · rw [show rdBad 0 rows = none from e]
    refine fn_rt (δ' := [strD rows, .list (rows.map fun r => pairD (pr1 r)), a', b']) ?_ rfl
    show g__law_read [strD rows, .none, .none, .none] = _
    unfold g__law_read
    rw [set_of (d := .list []) rfl]
    show sSeq _ _ [strD rows, .list [], .none, .none] = _
    rw [← er] at l
    exact (for_nx hs l).trans (ret_of (tp2 rfl rfl))
  · rw [show rdBad 0 rows = some (k, i) from e]
    refine fn_rt (δ' := [strD rows, o', a', b']) ?_ rfl
    show g__law_read [strD rows, .none, .none, .none] = _
    unfold g__law_read
    rw [set_of (d := .list []) rfl]
    show sSeq _ _ [strD rows, .list [], .none, .none] = _
    rw [← er] at l
    exact for_rt hs l
end LawK36

set_option linter.all false
set_option maxRecDepth 10000
namespace LawK36
open PySem Pv
/-! k36: the program's reading -/
def rsB : SF := sSeq (sSet 4 (x2 dSplit (xV 3) (xK (.str " ")))) (sSeq (sIf (bE (x2 dNe (xL oLen (xCons (xV 4) xNil)) (xK (.int 2)))) sNo sNil) (sSeq (sIf (bE (x2 dIn (xK (.str "")) (xV 4))) sNo sNil) (sDrop (xApp 1 (mOf (xL mkTup (xCons (x2 dIx (xV 4) (xK (.int 0))) (xCons (x2 dIx (xV 4) (xK (.int 1))) xNil))))))))
def rsR : RF := rfCons (sSet 4 (x2 dSplit (xV 3) (xK (.str " ")))) (rfOr (rfIf (bE (x2 dNe (xL oLen (xCons (xV 4) xNil)) (xK (.int 2)))) (rfR "line" "field" (xCons (xV 2) (xCons (x1 dNeg (xK (.int 1))) xNil))) rfNo) (rfCons (sIf (bE (x2 dNe (xL oLen (xCons (xV 4) xNil)) (xK (.int 2)))) sNo sNil) (rfIf (bE (x2 dIn (xK (.str "")) (xV 4))) (rfR "line" "field" (xCons (xV 2) (xCons (x2 dIndex (xV 4) (xK (.str ""))) xNil))) rfNo)))
def badX (k : Nat) (i : Int) : XD := [("line", .int k), ("field", .int i)]
theorem sp_e {δ : List D} {r : Str} (hr : δ[3]? = some (.str r)) (h : Ln r) : x2 dSplit (xV 3) (xK (.str " ")) δ = some (strD (splS r)) := by
  rw [x2_of (d := .str r) (e := .str (Str.ofString " ")) hr rfl]
  show (if ((Str.ofString " ").length == 0) = false ∧ r.length + 2 ≤ sizeLine then some (PyData.list ((Txt.split r (Str.ofString " ")).map .str)) else none) = _
  rw [if_pos ⟨by decide +kernel, h.len⟩]
  rfl
theorem in_em {δ : List D} {l : List Str} (h : δ[4]? = some (strD l)) : bE (x2 dIn (xK (.str "")) (xV 4)) δ = some (decide (emS ∈ l)) := bE_of (by
  rw [x2_of (d := .str emS) (e := strD l) rfl h]; exact dIn_strs l emS)
theorem rs_none {L : D} {out : List D} {k : Nat} {a0 : D} {r : Str} (h : Ln r) (hj : jd r = none) (hl : out.length < sizeLine) :
    rsB [L, .list out, .int k, .str r, a0] = some (.nx [L, .list (out ++ [pairD (pr1 r)]), .int k, .str r, strD (splS r)]) := by
  have h2 : (splS r).length = 2 := Classical.byContradiction fun z => by rw [jdn z] at hj; cases hj
  obtain ⟨a, b, e⟩ := two_of h2
  rw [jd2 e] at hj
  have na : a ≠ emS := fun z => by rw [if_pos z] at hj; cases hj
  rw [if_neg na] at hj
  have nb : b ≠ emS := fun z => by rw [if_pos z] at hj; cases hj
  unfold rsB
  rw [set_of (sp_e rfl h), e]
  show sSeq _ _ [L, .list out, .int k, .str r, strD [a, b]] = _
  have p0 : x2 dIx (xV 4) (xK (.int 0)) [L, .list out, .int k, .str r, strD [a, b]] = some (.str a) := by rw [x2_of (d := strD [a, b]) (e := .int 0) rfl rfl]; exact at0 _ _
  have p1 : x2 dIx (xV 4) (xK (.int 1)) [L, .list out, .int k, .str r, strD [a, b]] = some (.str b) := by rw [x2_of (d := strD [a, b]) (e := .int 1) rfl rfl]; exact at1 _ _ _
  have hm : ¬ emS ∈ [a, b] := by
    simp only [List.mem_cons, List.not_mem_nil, or_false]
    exact fun z => z.elim (fun z => na z.symm) fun z => nb z.symm
  rw [pass_if (by rw [ne2 (i := 4) (l := [a, b]) rfl]; rfl), pass_if (by rw [in_em (l := [a, b]) rfl, decide_eq_false hm]), pr2 e]
  exact drop_e (app_e (tp2 p0 p1) rfl hl)
theorem rs_some {L o : D} {k : Nat} {a0 : D} {r : Str} {i : Int} (h : Ln r) (hj : jd r = some i) :
    rsB [L, o, .int k, .str r, a0] = none ∧ rsR [L, o, .int k, .str r, a0] = some (badX k i, [L, o, .int k, .str r, strD (splS r)]) := by
  have e0 : sSet 4 (x2 dSplit (xV 3) (xK (.str " "))) [L, o, .int k, .str r, a0] = some (.nx [L, o, .int k, .str r, strD (splS r)]) := by
    rw [sSet_e, sp_e rfl h]; rfl
  have eR : ∀ R : RF, rfCons (sSet 4 (x2 dSplit (xV 3) (xK (.str " ")))) R [L, o, .int k, .str r, a0] = R [L, o, .int k, .str r, strD (splS r)] := fun R => by
    unfold rfCons
    rw [e0]
    rfl
  unfold rsB rsR
  rw [eR, sSeq_nx e0]
  by_cases h2 : (splS r).length = 2
  · obtain ⟨a, b, e⟩ := two_of h2
    rw [jd2 e] at hj
    rw [e]
    have c : bE (x2 dNe (xL oLen (xCons (xV 4) xNil)) (xK (.int 2))) [L, o, .int k, .str r, strD [a, b]] = some false := by rw [ne2 (i := 4) (l := [a, b]) rfl]; rfl
    have hm : emS ∈ [a, b] := Classical.byContradiction fun z => by
      simp only [List.mem_cons, List.not_mem_nil, or_false, not_or] at z
      rw [if_neg fun y => z.1 y.symm, if_neg fun y => z.2 y.symm] at hj
      cases hj
    have ci : bE (x2 dIn (xK (.str "")) (xV 4)) [L, o, .int k, .str r, strD [a, b]] = some true := by rw [in_em (l := [a, b]) rfl, decide_eq_true hm]
    refine ⟨by rw [pass_if c]; exact no_if ci rfl, ?_⟩
    have e1 : rfIf (bE (x2 dNe (xL oLen (xCons (xV 4) xNil)) (xK (.int 2)))) (rfR "line" "field" (xCons (xV 2) (xCons (x1 dNeg (xK (.int 1))) xNil))) rfNo [L, o, .int k, .str r, strD [a, b]] = none := by rw [rfIf_f c]; rfl
    unfold rfOr
    rw [e1]
    have e2 : ∀ R : RF, rfCons (sIf (bE (x2 dNe (xL oLen (xCons (xV 4) xNil)) (xK (.int 2)))) sNo sNil) R [L, o, .int k, .str r, strD [a, b]] = R [L, o, .int k, .str r, strD [a, b]] := fun R => by
      unfold rfCons
      rw [if_f c]
      rfl
    show rfCons _ _ _ = _
    rw [e2, rfIf_t ci]
    have ix : x2 dIndex (xV 4) (xK (.str "")) [L, o, .int k, .str r, strD [a, b]] = some (.int i) := by
      rw [x2_of (d := strD [a, b]) (e := .str emS) rfl rfl, dIndex_strs hm]
      congr 2
      by_cases ea : a = emS
      · rw [if_pos ea] at hj
        cases hj
        rw [ea]
        simp
      · rw [if_neg ea] at hj
        by_cases eb : b = emS
        · rw [if_pos eb] at hj
          cases hj
          rw [List.idxOf_cons, beq_eq_false_iff_ne.mpr ea, eb]
          simp
        · rw [if_neg eb] at hj
          cases hj
    exact rfR_e rfl ix
  · rw [jdn h2] at hj
    cases hj
    have c : bE (x2 dNe (xL oLen (xCons (xV 4) xNil)) (xK (.int 2))) [L, o, .int k, .str r, strD (splS r)] = some true := by rw [ne2 (i := 4) (l := splS r) rfl, decide_eq_false h2]; rfl
    refine ⟨no_if c rfl, ?_⟩
    unfold rfOr
    rw [rfIf_t c, rfR_e (a := .int k) (b := .int (-1)) rfl rfl]
    rfl
theorem rs_loop (L : D) : ∀ (rest : List Str) (k : Nat) (out : List D) (a b c : D), (∀ r ∈ rest, Ln r) → out.length + rest.length ≤ sizeLine →
    (rdBad k rest = none ∧ ∃ a' b' c', forL (gTupD [2, 3]) rsB (enumD k (rest.map .str)) [L, .list out, a, b, c] = some (.nx [L, .list (out ++ rest.map fun r => pairD (pr1 r)), a', b', c'])) ∨
    (∃ j i, rdBad k rest = some (j, i) ∧ forL (gTupD [2, 3]) rsB (enumD k (rest.map .str)) [L, .list out, a, b, c] = none ∧ ∃ δ', rfLoop (gTupD [2, 3]) rsB rsR (enumD k (rest.map .str)) [L, .list out, a, b, c] = some (badX j i, δ'))
  | [], k, out, a, b, c, _, _ => .inl ⟨rfl, a, b, c, by rw [List.map_nil, List.map_nil, List.append_nil]; rfl⟩
  | r :: rest, k, out, a, b, c, h, hl => by
    rw [List.length_cons] at hl
    have ln : Ln r := h r List.mem_cons_self
    rw [rdBad, List.map_cons, enumD]
    have et : gTupD [2, 3] (.tuple [.int k, .str r]) [L, .list out, a, b, c] = some [L, .list out, .int k, .str r, c] := rfl
    cases hj : jd r with
    | some i =>
      obtain ⟨h1, h2⟩ := rs_some (L := L) (o := .list out) (k := k) (a0 := c) ln hj
      refine .inr ⟨_, _, rfl, forL_cno et h1, [L, .list out, .int k, .str r, strD (splS r)], ?_⟩
      rw [rfLoop, et, Option.bind_some, h1]
      exact h2
    | none =>
      have st := rs_none (L := L) (out := out) (k := k) (a0 := c) ln hj (by omega)
      have ih := rs_loop L rest (k + 1) (out ++ [pairD (pr1 r)]) (.int k) (.str r) (strD (splS r)) (fun q hq => h q (List.mem_cons_of_mem _ hq)) (by rw [List.length_append]; simp; omega)
      have er : rfLoop (gTupD [2, 3]) rsB rsR (.tuple [.int k, .str r] :: enumD (k + 1) (rest.map .str)) [L, .list out, a, b, c] = rfLoop (gTupD [2, 3]) rsB rsR (enumD (k + 1) (rest.map .str)) [L, .list (out ++ [pairD (pr1 r)]), .int k, .str r, strD (splS r)] := by
        rw [rfLoop, et, Option.bind_some, st]
      rw [forL_cnx et st, er]
      have em : out ++ (r :: rest).map (fun r => pairD (pr1 r)) = out ++ [pairD (pr1 r)] ++ rest.map fun r => pairD (pr1 r) := by simp
      rw [em]
      exact ih
theorem lines_ok {rows : List Str} (h1 : rows ≠ []) : plainL (.tuple (rows.map .str)) = true ∧ linesD (.tuple (rows.map .str)) = true := by
  refine ⟨?_, ?_⟩
  · show (rows.map PyData.str).all noDict = true
    simp [noDict]
  · show (!(rows.map PyData.str).isEmpty && (rows.map PyData.str).all isS) = true
    simp [isS, h1]
theorem f_read {rows : List Str} (h1 : rows ≠ []) (hr : ∀ r ∈ rows, Ln r) (hl : rows.length ≤ sizeLine) :
    (rdBad 0 rows = none ∧ f_read_slips [.tuple (rows.map .str)] = some (.tuple (rows.map fun r => pairD (pr1 r)), [.tuple (rows.map .str)])) ∨
    (∃ j i, rdBad 0 rows = some (j, i) ∧ f_read_slips [.tuple (rows.map .str)] = none ∧ r_read_slips_InvalidText [.tuple (rows.map .str)] = some (badX j i)) := by
  obtain ⟨p1, p2⟩ := lines_ok h1
  rcases rs_loop (.tuple (rows.map .str)) rows 0 [] .none .none .none hr (by simpa using hl) with ⟨e, a', b', c', l⟩ | ⟨j, i, e, l, δ', l2⟩
  · refine .inl ⟨e, fn_rt (δ' := [.tuple (rows.map .str), .list (rows.map fun r => pairD (pr1 r)), a', b', c']) ?_ rfl⟩
    show g_read_slips [.tuple (rows.map .str), .none, .none, .none, .none] = _
    unfold g_read_slips
    rw [pass_if (linesY p1 p2), set_of (d := .list []) rfl]
    show sSeq _ _ [.tuple (rows.map .str), .list [], .none, .none, .none] = _
    exact (for_nx (by rfl) l).trans (ret_of (tpl rfl))
  · refine .inr ⟨j, i, e, fn_no ?_, fnR_e (δ' := δ') ?_⟩
    · show g_read_slips [.tuple (rows.map .str), .none, .none, .none, .none] = _
      unfold g_read_slips
      rw [pass_if (linesY p1 p2), set_of (d := .list []) rfl]
      show sSeq (sFor _ _ rsB) _ [.tuple (rows.map .str), .list [], .none, .none, .none] = _
      have e3 : sFor (lEnum (xCons (xV 0) xNil)) (gTupD [2, 3]) rsB [.tuple (rows.map .str), .list [], .none, .none, .none] = none := l
      rw [sSeq_e, e3]
      rfl
    · show rg_read_slips_InvalidText [.tuple (rows.map .str), .none, .none, .none, .none] = _
      unfold rg_read_slips_InvalidText
      have e1 : ∀ R : RF, rfCons (sIf (bNot (bE (xCall f__are_lines (xCons (xV 0) xNil)))) sNo sNil) R [.tuple (rows.map .str), .none, .none, .none, .none] = R [.tuple (rows.map .str), .none, .none, .none, .none] := fun R => by
        unfold rfCons
        rw [if_f (linesY p1 p2)]
        rfl
      rw [e1]
      exact l2
/-! ### the law beside it -/
theorem ok_pair {p : Str × Str} (k : Nat) (h1 : PyData.strOk p.1 = true) (h2 : PyData.strOk p.2 = true) : okS (k + 2) (pairD p) = true := by
  show (decide (2 ≤ sizeLine) && (PyData.strOk p.1 && (PyData.strOk p.2 && true))) = true
  rw [h1, h2, decide_eq_true (by have := size_le; omega)]
  rfl
theorem pr1_ok {r : Str} (h : Ln r) : PyData.strOk (pr1 r).1 = true ∧ PyData.strOk (pr1 r).2 = true := by
  unfold pr1
  split
  · rename_i a b e
    exact pt_ok h e
  · exact ⟨h.ok, h.ok⟩
theorem ok_good {rows : List Str} (hr : ∀ r ∈ rows, Ln r) (hl : rows.length ≤ sizeLine) : okS 6 (.tuple (rows.map fun r => pairD (pr1 r))) = true := by
  rw [okS_t, List.length_map, decide_eq_true hl, Bool.true_and, List.all_eq_true]
  intro d hd
  obtain ⟨r, hr', rfl⟩ := List.mem_map.mp hd
  exact ok_pair 3 (pr1_ok (hr r hr')).1 (pr1_ok (hr r hr')).2
theorem f_reads {rows : List Str} (h1 : rows ≠ []) (hr : ∀ r ∈ rows, Ln r) (hl : rows.length ≤ sizeLine) : f__law_reads [strD rows] = some (.bool true, [strD rows]) := by
  have e0 := f_lread hr hl
  have s0 : ∀ t : SF, sSeq (sSet 1 (xCall f__law_read (xCons (xV 0) xNil))) t [strD rows, .none, .none, .none] = t [strD rows, readD rows, .none, .none] := fun t => set_of (call1 (a := strD rows) rfl e0)
  have et : xL oTup (xCons (xV 0) xNil) [strD rows, readD rows, .none, .none] = some (.tuple (rows.map .str)) := tpl rfl
  rcases f_read h1 hr hl with ⟨e, l⟩ | ⟨j, i, e, l, l2⟩
  · refine fn_rt (δ' := [strD rows, readD rows, .tuple (rows.map fun r => pairD (pr1 r)), .none]) ?_ rfl
    show g__law_reads [strD rows, .none, .none, .none] = _
    unfold g__law_reads
    rw [s0]
    have ed : readD rows = goodD rows := by unfold readD; rw [e]
    have e1 : sSet 2 (xCall f_read_slips (xCons (xL oTup (xCons (xV 0) xNil)) xNil)) [strD rows, readD rows, .none, .none] = some (.nx [strD rows, readD rows, .tuple (rows.map fun r => pairD (pr1 r)), .none]) := by
      rw [sSet_e, call1 et l]; rfl
    rw [sSeq_nx (try_ok e1), ed]
    refine ret_of (xand_k (k := true) ?_ fun _ => sm (d := .tuple (rows.map fun r => pairD (pr1 r))) rfl ?_ (ok_good hr hl))
    · rw [x2_of (d := .str "good") (e := .str "good") (by rw [x2_of (d := goodD rows) (e := .int 0) rfl rfl]; exact at0 _ _) rfl, dEq_str (by decide +kernel) (by decide +kernel), beq_self_eq_true]
    · rw [x2_of (d := goodD rows) (e := .int 1) rfl rfl]; exact at1 _ _ _
  · refine fn_rt (δ' := [strD rows, badD j i, .none, exD (badX j i)]) ?_ rfl
    show g__law_reads [strD rows, .none, .none, .none] = _
    unfold g__law_reads
    rw [s0]
    have ed : readD rows = badD j i := by unfold readD; rw [e]
    rw [ed] at et ⊢
    have e1 : sSet 2 (xCall f_read_slips (xCons (xL oTup (xCons (xV 0) xNil)) xNil)) [strD rows, badD j i, .none, .none] = none := by
      rw [sSet_e, call1N et l]; rfl
    have e2 : rfC r_read_slips_InvalidText (xCons (xL oTup (xCons (xV 0) xNil)) xNil) [strD rows, badD j i, .none, .none] = some (badX j i, [strD rows, badD j i, .none, .none]) := rfC_e (ds := [.tuple (rows.map .str)]) (by rw [xCons_e, et]; rfl) l2
    refine sSeq_rt (try_rt e1 e2 ?_)
    show sSeq _ _ [strD rows, badD j i, .none, exD (badX j i)] = _
    rw [pass_if (by rfl)]
    refine ret_of (xand_k (k := true) ?_ fun _ => sm (d := .tuple [.int j, .int i]) (tp2 rfl rfl) (tp2 ?_ ?_) ?_)
    · rw [x2_of (d := .str "bad") (e := .str "bad") (by rw [x2_of (d := badD j i) (e := .int 0) rfl rfl]; exact at0 _ _) rfl, dEq_str (by decide +kernel) (by decide +kernel), beq_self_eq_true]
    · rw [x2_of (d := badD j i) (e := .int 1) rfl rfl]; exact at1 _ _ _
    · rw [x2_of (d := badD j i) (e := .int 2) rfl rfl]; exact at2 _ _ _ _
    · rw [okS_t]
      show (decide (2 ≤ sizeLine) && (true && (true && true))) = true
      rw [decide_eq_true (by have := size_le; omega)]
      rfl
end LawK36

set_option linter.all false
set_option maxRecDepth 10000
namespace LawK36
open PySem Pv
/-! k36: names and slips drawn -/
structure GN (x : Str) : Prop where
  nm : isN x = true
  ok : PyData.strOk x = true
  len : x.length ≤ 20
theorem isN_of {x : Str} (h1 : TL.tl x ≠ []) (h2 : 32 ∉ TL.tl x) : isN x = true := by
  unfold isN
  have e1 : 0 < x.length := by
    rw [slen]
    exact List.length_pos_iff.mpr h1
  rw [decide_eq_true e1, decide_eq_false h2]
  rfl
theorem isN_iff {x : Str} (h : isN x = true) : TL.tl x ≠ [] ∧ 32 ∉ TL.tl x := by
  unfold isN at h
  rw [Bool.and_eq_true] at h
  have h1 := of_decide_eq_true h.1
  rw [slen] at h1
  exact ⟨List.length_pos_iff.mp h1, by simpa using h.2⟩
theorem cmpP_ex {β : Type} {i : Nat} {f : EF} {δ : List D} (e : β → D) (P : β → Prop) : ∀ ds : List D, (∀ d ∈ ds, ∃ y, P y ∧ f (δ.set i d) = some (e y)) → ∃ ys : List β, ys.length = ds.length ∧ (∀ y ∈ ys, P y) ∧ cmpP (gSet i) bYes f δ ds = some (ys.map e)
  | [], _ => ⟨[], rfl, (fun _ q => nomatch q), rfl⟩
  | d :: ds, h => by
    obtain ⟨y, py, ey⟩ := h d List.mem_cons_self
    obtain ⟨ys, h1, h2, h3⟩ := cmpP_ex e P ds fun d hd => h d (List.mem_cons_of_mem _ hd)
    refine ⟨y :: ys, by rw [List.length_cons, List.length_cons, h1], fun z hz => (List.mem_cons.mp hz).elim (fun e => e ▸ py) (h2 z), ?_⟩
    rw [cmpP, gSet_e, Option.bind_some, bYes_e, Option.bind_some, if_pos rfl, ey, Option.bind_some, h3]
    rfl
/-- a comprehension over range(n), item by item -/
theorem xCmp_ex {β : Type} {i n : Nat} {f g : EF} {δ : List D} (e : β → D) (P : β → Prop) (hg : g δ = some (.int n)) (hn : n ≤ sizeLine) (h : ∀ j : Nat, j < n → ∃ y, P y ∧ f (δ.set i (.int j)) = some (e y)) :
    ∃ ys : List β, ys.length = n ∧ (∀ y ∈ ys, P y) ∧ xCmp (lOf rng1 (xCons g xNil)) (gSet i) bYes f δ = some (.list (ys.map e)) := by
  obtain ⟨ys, h1, h2, h3⟩ := cmpP_ex (i := i) (f := f) (δ := δ) e P (rngD 0 n) fun d hd => by
    obtain ⟨j, hj⟩ := List.mem_iff_getElem?.mp hd
    obtain ⟨rfl, hj2⟩ := rng_get hj
    exact h j hj2
  refine ⟨ys, by rw [h1, rng_len], h2, ?_⟩
  rw [xCmp_e, rng_of hg hn, Option.bind_some, rng_len, if_pos hn, h3]
  rfl
theorem strsD_e : ∀ ys : List Str, strsD (ys.map .str) = some ys
  | [] => rfl
  | y :: ys => by
    rw [List.map_cons, strsD, strsD_e ys]
    rfl
theorem joinL_nil : ∀ cs : List Nat, TL.joinL [] (cs.map fun c => [c]) = cs
  | [] => rfl
  | [c] => rfl
  | c :: d :: cs => by
    have ih := joinL_nil (d :: cs)
    show [c] ++ ([] ++ TL.joinL [] ((d :: cs).map fun c => [c])) = _
    rw [ih]
    rfl
theorem join_signs (cs : List Nat) : Txt.join emS (cs.map fun c => mkS [c]) = mkS cs := by
  refine TL.ext_tl ?_
  have e : TL.tl emS = [] := by rw [show emS = mkS [] from em_mk]; rfl
  rw [TL.join_eq, TL.tl_join, e, List.map_map, mkS_tl]
  exact joinL_nil cs
theorem dJoin_signs {cs : List Nat} (h : cs.length ≤ 100) : dJoin (.str emS) (.list (cs.map fun c => .str (mkS [c]))) = some (.str (mkS cs)) := by
  have e : (cs.map fun c => PyData.str (mkS [c])) = (cs.map fun c => mkS [c]).map .str := by rw [List.map_map]; rfl
  show (strsD (cs.map fun c => PyData.str (mkS [c]))).bind _ = _
  rw [e, strsD_e, Option.bind_some]
  have hl : ((cs.map fun c => mkS [c]).map (·.length)).sum = cs.length := by
    rw [List.map_map]
    have : ∀ l : List Nat, (l.map ((fun x : Str => x.length) ∘ fun c => mkS [c])).sum = l.length := by
      intro l
      induction l with
      | nil => rfl
      | cons c l ih =>
        rw [List.map_cons, List.sum_cons, ih, List.length_cons]
        show (mkS [c]).length + _ = _
        rw [mkS_len]
        simp
        omega
    exact this cs
  have h0 : emS.length = 0 := by decide +kernel
  rw [if_pos (by rw [hl, h0]; omega), join_signs]
/-- the signs of a name -/
def sgL : List Nat := [98, 97, 62, 126, 58, 48, 65]
theorem sg_mk : (Str.ofString "ba>~:0A") = mkS sgL := by decide +kernel
theorem sg_at {v : Nat} (h : v < 7) : ∃ c, c ∈ sgL ∧ dIxS (.str "ba>~:0A") (.int v) = some (.str (mkS [c])) := by
  have hl : v < sgL.length := h
  refine ⟨sgL[v], List.getElem_mem hl, ?_⟩
  show (if (Str.ofString "ba>~:0A").length ≤ sizeLine then (L2.atI (Str.ofString "ba>~:0A").cps.toList (v : Int)).map fun c => PyData.str ⟨#[c]⟩ else none) = _
  rw [sg_mk, mkS_len, if_pos (by have := size_le; show 7 ≤ sizeLine; omega)]
  show (L2.atI sgL (v : Int)).map _ = _
  rw [atI_of (List.getElem?_eq_getElem hl)]
  rfl
theorem gn_signs {cs : List Nat} (h1 : cs ≠ []) (h2 : cs.length ≤ 3) (h : ∀ c ∈ cs, c ∈ sgL) : GN (mkS cs) := by
  have hm : ∀ c ∈ cs, c ≠ 32 ∧ c < 0x110000 := fun c hc => by
    have := h c hc
    simp only [sgL, List.mem_cons, List.not_mem_nil, or_false] at this
    omega
  exact ⟨isN_of h1 fun z => (hm 32 z).1 rfl, ok_iff.mpr fun c hc => (hm c hc).2, by rw [mkS_len]; omega⟩
theorem f_lname (ns : List Int) (k : Int) : ∃ x, GN x ∧ f__law_name [scr ns, .int k] = some (.str x, [scr ns, .int k]) := by
  obtain ⟨v, hv, e⟩ := lnum_of (δ := [scr ns, .int k, .str "ba>~:0A", .none, .none]) (f := xV 0) (g := xV 1) (h := xK (.int 3)) (ns := ns) (k := k) (L := 3) rfl rfl rfl (by decide)
  have e1 : x2 dAdd (xK (.int 1)) (xCall f__law_num (xCons (xV 0) (xCons (xV 1) (xCons (xK (.int 3)) xNil)))) [scr ns, .int k, .str "ba>~:0A", .none, .none] = some (.int ((1 + v : Nat) : Int)) := by
    rw [x2_of (d := .int 1) rfl e, dAdd_e]
    congr 2
  obtain ⟨cs, h1, h2, h3⟩ := xCmp_ex (i := 4) (n := 1 + v) (f := x2 dIxS (xV 2) (xCall f__law_num (xCons (xV 0) (xCons (x2 dAdd (x2 dAdd (xV 1) (xK (.int 1))) (xV 4)) (xCons (xK (.int 7)) xNil))))) (g := xV 3) (δ := [scr ns, .int k, .str "ba>~:0A", .int ((1 + v : Nat) : Int), .none])
    (fun c => PyData.str (mkS [c])) (fun c => c ∈ sgL) rfl (by have := size_le; omega) fun j hj => by
      obtain ⟨u, hu, eu⟩ := lnum_of (δ := [scr ns, .int k, .str "ba>~:0A", .int ((1 + v : Nat) : Int), .int j]) (f := xV 0) (g := x2 dAdd (x2 dAdd (xV 1) (xK (.int 1))) (xV 4)) (h := xK (.int 7)) (ns := ns) (k := k + 1 + j) (L := 7) rfl rfl rfl (by decide)
      obtain ⟨c, hc, ec⟩ := sg_at (v := u) (by omega)
      refine ⟨c, hc, ?_⟩
      show x2 _ _ _ [scr ns, .int k, .str "ba>~:0A", .int ((1 + v : Nat) : Int), .int j] = _
      rw [x2_of (d := .str "ba>~:0A") rfl eu, ec]
  refine ⟨mkS cs, gn_signs (fun z => by rw [z] at h1; simp at h1; omega) (by omega) h2, fn_rt (δ' := [scr ns, .int k, .str "ba>~:0A", .int ((1 + v : Nat) : Int), .none]) ?_ rfl⟩
  show g__law_name [scr ns, .int k, .none, .none, .none] = _
  unfold g__law_name
  rw [set_of (d := .str "ba>~:0A") rfl]
  show sSeq _ _ [scr ns, .int k, .str "ba>~:0A", .none, .none] = _
  rw [set_of e1]
  refine ret_of ?_
  refine (x2_of (d := .str emS) rfl h3).trans ?_
  exact dJoin_signs (by omega)
/-! ### "n" + str(j) -/
theorem n_mk : (Str.ofString "n") = mkS [110] := by decide +kernel
theorem gn_num {j : Nat} (h : j < 100) : GN (Str.ofString "n" ++ Str.ofString (toString ((j : Nat) : Int))) := by
  have e : TL.tl (Str.ofString "n" ++ Str.ofString (toString ((j : Nat) : Int))) = 110 :: TL.numL j := by
    rw [TL.tl_append, TL.tl_num, n_mk]; rfl
  have hl := TL.numL_len (n := j) (k := 2) (by decide) (by omega)
  refine ⟨isN_of (by rw [e]; simp) ?_, ok_iff.mpr fun c hc => ?_, by rw [slen, e, List.length_cons]; omega⟩
  · rw [e]
    intro z
    rcases List.mem_cons.mp z with z | z
    · cases z
    · exact TL.numL_free (.inl (by decide)) z
  · rw [e] at hc
    rcases List.mem_cons.mp hc with z | z
    · omega
    · have := TL.numL_digits j c z
      omega
theorem oStr_e {j : Nat} (h : j < 100) : oStr [.int (j : Int)] = some (.str (Str.ofString (toString ((j : Nat) : Int)))) := by
  show (if ((j : Int)).natAbs.log2 < 1920 then some (PyData.str (Str.ofString (toString ((j : Nat) : Int)))) else none) = _
  rw [if_pos]
  rw [Int.natAbs_natCast]
  by_cases h0 : j = 0
  · subst h0; decide
  · have := (Nat.log2_lt h0 (k := 1920)).mpr (Nat.lt_of_lt_of_le h (by
      calc 100 ≤ 2 ^ 7 := by decide
        _ ≤ 2 ^ 1920 := Nat.pow_le_pow_right (by decide) (by decide)))
    exact this
end LawK36

set_option linter.all false
set_option maxRecDepth 10000
namespace LawK36
open PySem Pv
/-! k36: slips drawn -/
structure Sl (ps : List (Str × Str)) : Prop where
  pos : ps ≠ []
  len : ps.length ≤ 64
  all : ∀ p ∈ ps, GN p.1 ∧ GN p.2
theorem lin_e {δ : List D} {i : Nat} {a b j : Int} (h : δ[i]? = some (.int j)) : x2 dAdd (xK (.int a)) (x2 dMul (xK (.int b)) (xV i)) δ = some (.int (a + b * j)) ∨ mulOk b j = false := by
  cases hm : mulOk b j with
  | false => exact .inr rfl
  | true => exact .inl (by rw [x2_of (d := .int a) (e := .int (b * j)) rfl (by rw [x2_of (d := .int b) (e := .int j) rfl h, dMul_e hm]), dAdd_e])
theorem lin4 {δ : List D} {i : Nat} {a j : Int} (h : δ[i]? = some (.int j)) : x2 dAdd (xK (.int a)) (x2 dMul (xK (.int 4)) (xV i)) δ = some (.int (a + 4 * j)) := (lin_e (b := 4) h).resolve_right (by simp [mulOk])
theorem lin2 {δ : List D} {i : Nat} {a j : Int} (h : δ[i]? = some (.int j)) : x2 dAdd (xK (.int a)) (x2 dMul (xK (.int 2)) (xV i)) δ = some (.int (a + 2 * j)) := (lin_e (b := 2) h).resolve_right (by simp [mulOk])
theorem lin3 {δ : List D} {i : Nat} {a j : Int} (h : δ[i]? = some (.int j)) : x2 dAdd (xK (.int a)) (x2 dMul (xK (.int 3)) (xV i)) δ = some (.int (a + 3 * j)) := (lin_e (b := 3) h).resolve_right (by simp [mulOk])
/-- a + num(script, k, L) -/
theorem more_of {δ : List D} {ns : List Int} {a : Nat} {A k L : Int} (hA : A = (a : Nat)) (h : δ[0]? = some (scr ns)) (hL : 0 < L) : ∃ v : Nat, (v : Int) < L ∧ x2 dAdd (xK (.int A)) (xCall f__law_num (xCons (xV 0) (xCons (xK (.int k)) (xCons (xK (.int L)) xNil)))) δ = some (.int ((a + v : Nat) : Int)) := by
  obtain ⟨v, hv, e⟩ := lnum_of (δ := δ) (f := xV 0) (g := xK (.int k)) (h := xK (.int L)) (ns := ns) (k := k) (L := L) h rfl rfl hL
  refine ⟨v, hv, ?_⟩
  rw [x2_of (d := .int A) rfl e, dAdd_e, hA]
  congr 2
def lpB : SF := sSeq (sSet 5 (x2 dIx (xV 1) (xCall f__law_num (xCons (xV 0) (xCons (x2 dAdd (xK (.int 31)) (x2 dMul (xK (.int 2)) (xV 2))) (xCons (xL oLen (xCons (xV 1) xNil)) xNil)))))) (sDrop (xApp 4 (mOf (xL mkTup (xCons (xV 5) (xCons (x2 dIx (xV 1) (xCall f__law_num (xCons (xV 0) (xCons (x2 dAdd (xK (.int 32)) (x2 dMul (xK (.int 2)) (xV 2))) (xCons (xL oLen (xCons (xV 1) xNil)) xNil))))) xNil))))))
theorem pick_of {δ : List D} {ns : List Int} {pool : List Str} {g : EF} {k : Int} (h0 : δ[0]? = some (scr ns)) (h1 : δ[1]? = some (strD pool)) (hg : g δ = some (.int k)) (hp : pool ≠ []) :
    ∃ x ∈ pool, x2 dIx (xV 1) (xCall f__law_num (xCons (xV 0) (xCons g (xCons (xL oLen (xCons (xV 1) xNil)) xNil)))) δ = some (.str x) := by
  have hl : 0 < pool.length := List.length_pos_iff.mpr hp
  obtain ⟨v, hv, e⟩ := lnum_of (δ := δ) (f := xV 0) (g := g) (h := xL oLen (xCons (xV 1) xNil)) (ns := ns) (k := k) (L := (pool.length : Nat)) h0 hg (by
    rw [xL1 (d := strD pool) h1]
    show some (PyData.int ((pool.map PyData.str).length : Nat)) = _
    rw [List.length_map]) (by omega)
  have hv' : v < pool.length := by omega
  refine ⟨pool[v], List.getElem_mem hv', ?_⟩
  rw [x2_of (d := strD pool) h1 e, dIx_l]
  exact atI_of (by rw [List.getElem?_map, List.getElem?_eq_getElem hv']; rfl)
theorem lp_step (ns : List Int) (pool : List Str) (hp : pool ≠ []) (hg : ∀ x ∈ pool, GN x) (sz : D) (ps : List (Str × Str)) (j : Nat) (b : D) (hl : ps.length < sizeLine) :
    ∃ p : Str × Str, (GN p.1 ∧ GN p.2) ∧ ∃ b', lpB [scr ns, strD pool, .int j, sz, .list (ps.map pairD), b] = some (.nx [scr ns, strD pool, .int j, sz, .list ((ps ++ [p]).map pairD), b']) := by
  obtain ⟨x, hx, e1⟩ := pick_of (δ := [scr ns, strD pool, .int j, sz, .list (ps.map pairD), b]) (g := x2 dAdd (xK (.int 31)) (x2 dMul (xK (.int 2)) (xV 2))) rfl rfl (lin2 rfl) hp
  obtain ⟨y, hy, e2⟩ := pick_of (δ := [scr ns, strD pool, .int j, sz, .list (ps.map pairD), .str x]) (g := x2 dAdd (xK (.int 32)) (x2 dMul (xK (.int 2)) (xV 2))) rfl rfl (lin2 rfl) hp
  refine ⟨(x, y), ⟨hg x hx, hg y hy⟩, .str x, ?_⟩
  unfold lpB
  rw [set_of e1]
  show sDrop _ [scr ns, strD pool, .int j, sz, .list (ps.map pairD), .str x] = _
  rw [drop_e (app_e (y := pairD (x, y)) (ds := ps.map pairD) (tp2 rfl e2) rfl (by rw [List.length_map]; exact hl))]
  rw [List.map_append]
  rfl
theorem f_lpairs (ns : List Int) : ∃ ps, Sl ps ∧ f__law_pairs [scr ns] = some (.list (ps.map pairD), [scr ns]) := by
  have sz := size_le
  -- the pool
  obtain ⟨v0, hv0, e0⟩ := more_of (δ := [scr ns, .none, .none, .none, .none, .none]) (ns := ns) (a := 1) (A := 1) (k := 0) (L := 5) rfl rfl (by decide)
  obtain ⟨pool0, l0, g0, c0⟩ := xCmp_ex (i := 2) (n := 1 + v0) (f := xCall f__law_name (xCons (xV 0) (xCons (x2 dAdd (xK (.int 5)) (x2 dMul (xK (.int 4)) (xV 2))) xNil))) (g := x2 dAdd (xK (.int 1)) (xCall f__law_num (xCons (xV 0) (xCons (xK (.int 0)) (xCons (xK (.int 5)) xNil))))) (δ := [scr ns, .none, .none, .none, .none, .none])
    PyData.str GN e0 (by omega) fun j hj => by
      obtain ⟨x, hx, ex⟩ := f_lname ns (5 + 4 * j)
      exact ⟨x, hx, call2 (a := scr ns) (b := .int (5 + 4 * j)) rfl (lin4 rfl) ex⟩
  obtain ⟨v1, hv1, e1⟩ := more_of (δ := [scr ns, strD pool0, .none, .none, .none, .none]) (ns := ns) (a := 1) (A := 1) (k := 2) (L := 8) rfl rfl (by decide)
  -- what stands behind the if
  obtain ⟨pool, n, hp, hg, hn1, hn2, eif⟩ : ∃ (pool : List Str) (n : Nat), pool ≠ [] ∧ (∀ x ∈ pool, GN x) ∧ 1 ≤ n ∧ n ≤ 64 ∧
      sIf (bE (x2 dEq (xCall f__law_num (xCons (xV 0) (xCons (xK (.int 1)) (xCons (xK (.int 8)) xNil)))) (xK (.int 1)))) (sSeq (sSet 1 (xCmp (lOf rng1 (xCons (x2 dAdd (xK (.int 3)) (xCall f__law_num (xCons (xV 0) (xCons (xK (.int 3)) (xCons (xK (.int 11)) xNil))))) xNil)) (gSet 2) bYes (x2 dAdd (xK (.str "n")) (xL oStr (xCons (xV 2) xNil))))) (sSeq (sSet 3 (x2 dAdd (xK (.int 41)) (xCall f__law_num (xCons (xV 0) (xCons (xK (.int 4)) (xCons (xK (.int 24)) xNil)))))) sNil)) sNil [scr ns, strD pool0, .none, .int ((1 + v1 : Nat) : Int), .none, .none] = some (.nx [scr ns, strD pool, .none, .int n, .none, .none]) := by
    obtain ⟨u, hu, eu⟩ := lnum_of (δ := [scr ns, strD pool0, .none, .int ((1 + v1 : Nat) : Int), .none, .none]) (f := xV 0) (g := xK (.int 1)) (h := xK (.int 8)) (ns := ns) (k := 1) (L := 8) rfl rfl rfl (by decide)
    have q : bE (x2 dEq (xCall f__law_num (xCons (xV 0) (xCons (xK (.int 1)) (xCons (xK (.int 8)) xNil)))) (xK (.int 1))) [scr ns, strD pool0, .none, .int ((1 + v1 : Nat) : Int), .none, .none] = some ((u : Int) == 1) := bE_of (by rw [x2_of (e := .int 1) eu rfl, dEq_e])
    cases hq : ((u : Int) == 1) with
    | false =>
      rw [hq] at q
      refine ⟨pool0, 1 + v1, fun z => by rw [z] at l0; simp at l0; omega, g0, by omega, by omega, ?_⟩
      rw [if_f q]
      rfl
    | true =>
      rw [hq] at q
      obtain ⟨v3, hv3, e3⟩ := more_of (δ := [scr ns, strD pool0, .none, .int ((1 + v1 : Nat) : Int), .none, .none]) (ns := ns) (a := 3) (A := 3) (k := 3) (L := 11) rfl rfl (by decide)
      obtain ⟨pool1, l1, g1, c1⟩ := xCmp_ex (i := 2) (n := 3 + v3) (f := x2 dAdd (xK (.str "n")) (xL oStr (xCons (xV 2) xNil))) (g := x2 dAdd (xK (.int 3)) (xCall f__law_num (xCons (xV 0) (xCons (xK (.int 3)) (xCons (xK (.int 11)) xNil))))) (δ := [scr ns, strD pool0, .none, .int ((1 + v1 : Nat) : Int), .none, .none])
        PyData.str GN e3 (by omega) fun j hj => by
          have gj := gn_num (j := j) (by omega)
          refine ⟨_, gj, ?_⟩
          show x2 _ _ _ [scr ns, strD pool0, .int j, .int ((1 + v1 : Nat) : Int), .none, .none] = _
          have hlen := gj.len
          rw [slen_app] at hlen
          rw [x2_of (d := .str (Str.ofString "n")) (e := .str (Str.ofString (toString ((j : Nat) : Int)))) rfl (by rw [xL1 (d := .int j) rfl, oStr_e (by omega)]), dAdd_str (by omega)]
      obtain ⟨v4, hv4, e4⟩ := more_of (δ := [scr ns, strD pool1, .none, .int ((1 + v1 : Nat) : Int), .none, .none]) (ns := ns) (a := 41) (A := 41) (k := 4) (L := 24) rfl rfl (by decide)
      refine ⟨pool1, 41 + v4, fun z => by rw [z] at l1; simp at l1; omega, g1, by omega, by omega, ?_⟩
      rw [if_t q, set_of c1]
      show sSeq _ _ [scr ns, strD pool1, .none, .int ((1 + v1 : Nat) : Int), .none, .none] = _
      rw [set_of e4]
      rfl
  -- the loop
  obtain ⟨δ', l, ps, a, b, rfl, hlen, hall⟩ := forL_inv (tg := gSet 2) (b := lpB) (fun k δ => ∃ (ps : List (Str × Str)) (a b : D), δ = [scr ns, strD pool, a, .int n, .list (ps.map pairD), b] ∧ ps.length = k ∧ (k ≤ 64 → ∀ p ∈ ps, GN p.1 ∧ GN p.2)) (rngD 0 n) 0 [scr ns, strD pool, .none, .int n, .list [], .none] ⟨[], _, _, rfl, rfl, fun _ _ q => nomatch q⟩ fun j d δ hd ⟨ps, a, b, e, hk, hal⟩ => by
    subst e
    obtain ⟨rfl, hj⟩ := rng_get hd
    obtain ⟨p, gp, b', st⟩ := lp_step ns pool hp hg (.int n) ps j b (by omega)
    exact ⟨_, _, rfl, st, ps ++ [p], _, b', rfl, by rw [List.length_append, List.length_singleton, hk], fun hle q hq => (List.mem_append.mp hq).elim (fun z => hal (by omega) q z) fun z => by rw [List.mem_singleton.mp z]; exact gp⟩
  rw [rng_len, Nat.zero_add] at hlen hall
  refine ⟨ps, ⟨fun z => by rw [z] at hlen; simp at hlen; omega, by omega, hall (by omega)⟩, fn_rt (δ' := [scr ns, strD pool, a, .int n, .list (ps.map pairD), b]) ?_ rfl⟩
  show g__law_pairs [scr ns, .none, .none, .none, .none, .none] = _
  unfold g__law_pairs
  rw [set_of c0]
  show sSeq _ _ [scr ns, strD pool0, .none, .none, .none, .none] = _
  rw [set_of e1]
  show sSeq _ _ [scr ns, strD pool0, .none, .int ((1 + v1 : Nat) : Int), .none, .none] = _
  rw [sSeq_nx eif, set_of (d := .list []) rfl]
  show sSeq _ _ [scr ns, strD pool, .none, .int n, .list [], .none] = _
  exact (for_nx (rng_of (n := n) rfl (by omega)) l).trans (ret_of rfl)
end LawK36

set_option linter.all false
set_option maxRecDepth 10000
namespace LawK36
open PySem Pv
/-! k36: names by first appearance; heap_of -/
def add1 (acc : List Str) (x : Str) : List Str := if x ∈ acc then acc else acc ++ [x]
def addP (acc : List Str) (p : Str × Str) : List Str := add1 (add1 acc p.1) p.2
def called (ps : List (Str × Str)) : List Str := ps.foldl addP []
theorem add1_mem {acc : List Str} {x y : Str} : y ∈ add1 acc x ↔ y ∈ acc ∨ y = x := by
  unfold add1
  split
  · exact ⟨.inl, fun h => h.elim id fun e => by rw [e]; assumption⟩
  · simp
theorem add1_nd {acc : List Str} {x : Str} (h : acc.Nodup) : (add1 acc x).Nodup := by
  unfold add1
  split
  · exact h
  · rename_i hx
    exact List.nodup_append.mpr ⟨h, by simp, fun a ha b hb e => hx (by have : b = x := by simpa using hb
                                                                       rw [← this, ← e]; exact ha)⟩
theorem add1_ix {acc : List Str} {x y : Str} (h : y ∈ acc) : (add1 acc x).idxOf y = acc.idxOf y := by
  unfold add1
  split
  · rfl
  · rw [List.idxOf_append, if_pos h]
theorem add1_len {acc : List Str} {x : Str} : (add1 acc x).length ≤ acc.length + 1 := by
  unfold add1
  split
  · omega
  · rw [List.length_append]; simp
theorem addP_mem {acc : List Str} {p : Str × Str} {y : Str} : y ∈ addP acc p ↔ y ∈ acc ∨ y = p.1 ∨ y = p.2 := by
  unfold addP
  rw [add1_mem, add1_mem, or_assoc]
theorem addP_ix {acc : List Str} {p : Str × Str} {y : Str} (h : y ∈ acc) : (addP acc p).idxOf y = acc.idxOf y := by
  unfold addP
  rw [add1_ix (add1_mem.mpr (.inl h)), add1_ix h]
theorem addP_nd {acc : List Str} {p : Str × Str} (h : acc.Nodup) : (addP acc p).Nodup := add1_nd (add1_nd h)
theorem addP_len {acc : List Str} {p : Str × Str} : (addP acc p).length ≤ acc.length + 2 := by
  unfold addP
  have := add1_len (acc := acc) (x := p.1)
  have := add1_len (acc := add1 acc p.1) (x := p.2)
  omega
theorem fold_mem {y : Str} : ∀ (ps : List (Str × Str)) (acc : List Str), y ∈ ps.foldl addP acc ↔ y ∈ acc ∨ ∃ p ∈ ps, y = p.1 ∨ y = p.2
  | [], acc => by simp
  | p :: ps, acc => by
    rw [List.foldl_cons, fold_mem ps, addP_mem]
    simp only [List.mem_cons, exists_eq_or_imp]
    constructor
    · rintro ((h | h) | h)
      · exact .inl h
      · exact .inr (.inl h)
      · exact .inr (.inr h)
    · rintro (h | h | h)
      · exact .inl (.inl h)
      · exact .inl (.inr h)
      · exact .inr h
theorem fold_nd : ∀ (ps : List (Str × Str)) (acc : List Str), acc.Nodup → (ps.foldl addP acc).Nodup
  | [], acc, h => h
  | p :: ps, acc, h => fold_nd ps _ (addP_nd h)
theorem fold_len : ∀ (ps : List (Str × Str)) (acc : List Str), (ps.foldl addP acc).length ≤ acc.length + 2 * ps.length
  | [], acc => Nat.le_refl _
  | p :: ps, acc => by
    have := fold_len ps (addP acc p)
    have := addP_len (acc := acc) (p := p)
    rw [List.foldl_cons, List.length_cons]
    omega
theorem called_mem {ps : List (Str × Str)} {y : Str} : y ∈ called ps ↔ ∃ p ∈ ps, y = p.1 ∨ y = p.2 := by
  unfold called
  rw [fold_mem]
  simp
theorem called_nd (ps : List (Str × Str)) : (called ps).Nodup := fold_nd ps [] .nil
theorem called_len (ps : List (Str × Str)) : (called ps).length ≤ 2 * ps.length := by
  have := fold_len ps []
  rw [List.length_nil, Nat.zero_add] at this
  exact this
/-! ### the law's -/
def cnB : SF := sIf (bE (x2 dNotIn (xV 3) (xV 1))) (sDrop (xApp 1 (mOf (xV 3)))) sNil
theorem cn_step {L : D} {acc : List Str} {a : D} {x : Str} (hl : acc.length < sizeLine) : cnB [L, strD acc, a, .str x] = some (.nx [L, strD (add1 acc x), a, .str x]) := by
  have q : bE (x2 dNotIn (xV 3) (xV 1)) [L, strD acc, a, .str x] = some (!decide (x ∈ acc)) := bE_of (by rw [x2_of (d := .str x) (e := strD acc) rfl rfl]; exact dNotIn_strs acc x)
  unfold cnB add1
  by_cases h : x ∈ acc
  · rw [decide_eq_true h] at q
    rw [if_f q, if_pos h]
    rfl
  · rw [decide_eq_false h] at q
    rw [if_t q, if_neg h, drop_e (app_e (y := .str x) (ds := acc.map .str) rfl rfl (by rw [List.length_map]; exact hl))]
    show some (Out.nx [L, .list (acc.map .str ++ [.str x]), a, .str x]) = _
    rw [show strD (acc ++ [x]) = .list (acc.map .str ++ [.str x]) by simp [strD]]
theorem cp_step {L : D} {acc : List Str} {b : D} {p : Str × Str} (hl : acc.length + 2 < sizeLine) : sFor (lSeq (xV 2)) (gSet 3) cnB [L, strD acc, pairD p, b] = some (.nx [L, strD (addP acc p), pairD p, .str p.2]) := by
  show forL (gSet 3) cnB [.str p.1, .str p.2] [L, strD acc, pairD p, b] = _
  have := add1_len (acc := acc) (x := p.1)
  rw [forL_cnx (δ1 := [L, strD acc, pairD p, .str p.1]) rfl (cn_step (by omega)), forL_cnx (δ1 := [L, strD (add1 acc p.1), pairD p, .str p.2]) rfl (cn_step (by omega))]
  rfl
theorem c_loop (L : D) : ∀ (ps : List (Str × Str)) (acc : List Str) (a b : D), acc.length + 2 * ps.length + 2 < sizeLine →
    ∃ a' b', forL (gSet 2) (sFor (lSeq (xV 2)) (gSet 3) cnB) (ps.map pairD) [L, strD acc, a, b] = some (.nx [L, strD (ps.foldl addP acc), a', b'])
  | [], acc, a, b, _ => ⟨a, b, rfl⟩
  | p :: ps, acc, a, b, h => by
    rw [List.length_cons] at h
    have := addP_len (acc := acc) (p := p)
    obtain ⟨a', b', ih⟩ := c_loop L ps (addP acc p) (pairD p) (.str p.2) (by omega)
    refine ⟨a', b', ?_⟩
    rw [List.map_cons, forL_cnx (δ1 := [L, strD acc, pairD p, b]) rfl (cp_step (by omega))]
    exact ih
abbrev psL (ps : List (Str × Str)) : D := .list (ps.map pairD)
abbrev psT (ps : List (Str × Str)) : D := .tuple (ps.map pairD)
theorem f_called {ps : List (Str × Str)} (h : ps.length ≤ 1000) : f__law_called [psL ps] = some (strD (called ps), [psL ps]) := by
  have sz := size_le
  obtain ⟨a', b', l⟩ := c_loop (psL ps) ps [] .none .none (by rw [List.length_nil]; omega)
  refine fn_rt (δ' := [psL ps, strD (called ps), a', b']) ?_ rfl
  show g__law_called [psL ps, .none, .none, .none] = _
  unfold g__law_called
  rw [set_of (d := .list []) rfl]
  show sSeq _ _ [psL ps, strD [], .none, .none] = _
  exact (for_nx (by rfl) l).trans (ret_of rfl)
/-! ### heap_of -/
def kvF : Nat → List Str → List (D × D)
  | _, [] => []
  | k, x :: r => (.str x, .int k) :: kvF (k + 1) r
theorem kv_len : ∀ (k : Nat) (acc : List Str), (kvF k acc).length = acc.length
  | _, [] => rfl
  | k, x :: r => by rw [kvF, List.length_cons, kv_len, List.length_cons]
theorem kv_fst : ∀ (k : Nat) (acc : List Str), (kvF k acc).map Prod.fst = acc.map .str
  | _, [] => rfl
  | k, x :: r => by rw [kvF, List.map_cons, kv_fst, List.map_cons]
theorem kv_app : ∀ (k : Nat) (acc : List Str) (x : Str), kvF k (acc ++ [x]) = kvF k acc ++ [(.str x, .int ((k + acc.length : Nat) : Int))]
  | k, [], x => rfl
  | k, y :: r, x => by
    rw [List.cons_append, kvF, kvF, kv_app, List.cons_append, List.length_cons, show k + 1 + r.length = k + (r.length + 1) by omega]
theorem kv_pos (x : Str) : ∀ (k : Nat) (acc : List Str), (posD (kvF k acc) (.str x)).isSome = decide (x ∈ acc) ∧ (x ∈ acc → getD' (kvF k acc) (.str x) = some (.int ((k + acc.idxOf x : Nat) : Int)))
  | k, [] => ⟨rfl, fun h => nomatch h⟩
  | k, y :: r => by
    obtain ⟨h1, h2⟩ := kv_pos x (k + 1) r
    have e : posD (kvF k (y :: r)) (.str x) = if y = x then some 0 else (posD (kvF (k + 1) r) (.str x)).map (· + 1) := by
      rw [kvF, posD_cons, eqv_str]
      by_cases h : y = x
      · rw [if_pos h, h, beq_self_eq_true, if_pos rfl]
      · rw [if_neg h, beq_eq_false_iff_ne.mpr h, if_neg Bool.false_ne_true]
    by_cases h : y = x
    · refine ⟨by rw [e, if_pos h, h]; simp, fun _ => ?_⟩
      unfold getD'
      rw [e, if_pos h, h]
      simp [kvF]
    · have h' : ¬ x = y := fun z => h z.symm
      refine ⟨by rw [e, if_neg h, Option.isSome_map, h1]; simp [h'], fun hm => ?_⟩
      have hm' : x ∈ r := (List.mem_cons.mp hm).resolve_left h'
      have g := h2 hm'
      unfold getD' at g ⊢
      rw [e, if_neg h]
      obtain ⟨n, hn, g⟩ := Option.bind_eq_some_iff.mp g
      rw [hn]
      show ((kvF k (y :: r))[n + 1]?).map _ = _
      rw [kvF, List.getElem?_cons_succ, g, List.idxOf_cons, beq_eq_false_iff_ne.mpr h, show k + 1 + List.idxOf x r = k + (List.idxOf x r + 1) by omega]
      rfl
abbrev kvD (acc : List Str) : D := .dict (kvF 0 acc)
theorem kv_dict (acc : List Str) : dictOf (kvD acc) = some (false, kvF 0 acc) := by cases acc <;> rfl
theorem kv_notin {δ : List D} {i : Nat} {acc : List Str} {x : Str} (h1 : δ[1]? = some (kvD acc)) (h2 : δ[i]? = some (.str x)) : bE (x2 dDNotIn (xV i) (xV 1)) δ = some (!decide (x ∈ acc)) := bE_of (by
  rw [x2_of (d := .str x) (e := kvD acc) h2 h1]
  unfold dDNotIn
  rw [kv_dict, Option.bind_some]
  show some (PyData.bool (!(posD (kvF 0 acc) (.str x)).isSome)) = _
  rw [(kv_pos x 0 acc).1])
theorem kv_get {δ : List D} {i : Nat} {acc : List Str} {x : Str} (h1 : δ[1]? = some (kvD acc)) (h2 : δ[i]? = some (.str x)) (hm : x ∈ acc) : x2 dDGet (xV 1) (xV i) δ = some (.int ((acc.idxOf x : Nat) : Int)) := by
  rw [x2_of (d := kvD acc) (e := .str x) h1 h2]
  unfold dDGet
  rw [kv_dict, Option.bind_some]
  show getD' (kvF 0 acc) (.str x) = _
  rw [(kv_pos x 0 acc).2 hm, Nat.zero_add]
theorem kv_put {T lv : D} {r : List D} {i : Nat} {acc : List Str} {x : Str} {t : SF} (hi : (T :: kvD acc :: lv :: r)[i]? = some (.str x)) (hl : acc.length < sizeLine) :
    sSeq (sIf (bE (x2 dDNotIn (xV i) (xV 1))) (sPutK 1 (mOf (xL oLenD (xCons (xV 1) xNil))) (xV i)) sNil) t (T :: kvD acc :: lv :: r) = t (T :: kvD (add1 acc x) :: lv :: r) := by
  have q := kv_notin (δ := T :: kvD acc :: lv :: r) (i := i) (acc := acc) (x := x) rfl hi
  unfold add1
  by_cases h : x ∈ acc
  · rw [decide_eq_true h] at q
    rw [pass_if q, if_pos h]
  · rw [decide_eq_false h] at q
    rw [if_neg h]
    refine sSeq_nx ?_
    rw [if_t q]
    have e1 : xL oLenD (xCons (xV 1) xNil) (T :: kvD acc :: lv :: r) = some (.int acc.length) := by
      rw [xL1 (d := kvD acc) rfl]
      show ((dictOf (kvD acc)).bind fun p => if p.1 then none else some (PyData.int p.2.length)) = _
      rw [kv_dict, Option.bind_some]
      show some (PyData.int ((kvF 0 acc).length : Nat)) = _
      rw [kv_len]
    unfold sPutK
    rw [mOf_e, e1, Option.map_some, Option.bind_some]
    show ((xV i (T :: kvD acc :: lv :: r)).bind _) = _
    rw [xV_e, hi, Option.bind_some]
    show (if (kvF 0 acc).length < sizeLine then some (Out.nx (T :: .dict (putD (kvF 0 acc) (.str x) (.int acc.length)) :: lv :: r)) else none) = _
    rw [kv_len, if_pos hl]
    unfold putD
    rw [(kv_pos x 0 acc).1, decide_eq_false h, if_neg Bool.false_ne_true]
    show some (Out.nx (T :: .dict (kvF 0 acc ++ [(.str x, .int acc.length)]) :: lv :: r)) = _
    rw [show kvD (acc ++ [x]) = .dict (kvF 0 acc ++ [(.str x, .int acc.length)]) by
      show PyData.dict (kvF 0 (acc ++ [x])) = _
      rw [kv_app, Nat.zero_add]]
def lfD (acc : List Str) (p : Str × Str) : D := .tuple [.int ((acc.idxOf p.1 : Nat) : Int), .int ((acc.idxOf p.2 : Nat) : Int)]
def hpB : SF := sSeq (sIf (bE (x2 dDNotIn (xV 3) (xV 1))) (sPutK 1 (mOf (xL oLenD (xCons (xV 1) xNil))) (xV 3)) sNil) (sSeq (sIf (bE (x2 dDNotIn (xV 4) (xV 1))) (sPutK 1 (mOf (xL oLenD (xCons (xV 1) xNil))) (xV 4)) sNil) (sDrop (xApp 2 (mOf (xL mkTup (xCons (x2 dDGet (xV 1) (xV 3)) (xCons (x2 dDGet (xV 1) (xV 4)) xNil)))))))
theorem hp_step {T : D} {acc : List Str} {lv : List D} {p : Str × Str} (hl : acc.length + 2 < sizeLine) (h2 : lv.length < sizeLine) :
    hpB [T, kvD acc, .list lv, .str p.1, .str p.2] = some (.nx [T, kvD (addP acc p), .list (lv ++ [lfD (addP acc p) p]), .str p.1, .str p.2]) := by
  have := add1_len (acc := acc) (x := p.1)
  unfold hpB
  rw [kv_put (i := 3) (x := p.1) rfl (by omega), kv_put (i := 4) (x := p.2) rfl (by omega)]
  have m1 : p.1 ∈ addP acc p := addP_mem.mpr (.inr (.inl rfl))
  have m2 : p.2 ∈ addP acc p := addP_mem.mpr (.inr (.inr rfl))
  exact drop_e (app_e (tp2 (kv_get (acc := addP acc p) (i := 3) rfl rfl m1) (kv_get (acc := addP acc p) (i := 4) rfl rfl m2)) rfl h2)
theorem fold_ix {y : Str} : ∀ (ps : List (Str × Str)) (acc : List Str), y ∈ acc → (ps.foldl addP acc).idxOf y = acc.idxOf y
  | [], _, _ => rfl
  | p :: ps, acc, h => by rw [List.foldl_cons, fold_ix ps _ (addP_mem.mpr (.inl h)), addP_ix h]
theorem hp_loop (T : D) : ∀ (ps : List (Str × Str)) (acc : List Str) (lv : List D) (a b : D), acc.length + 2 * ps.length + 2 < sizeLine → lv.length + ps.length < sizeLine →
    ∃ a' b', forL (gTupD [3, 4]) hpB (ps.map pairD) [T, kvD acc, .list lv, a, b] = some (.nx [T, kvD (ps.foldl addP acc), .list (lv ++ ps.map (lfD (ps.foldl addP acc))), a', b'])
  | [], acc, lv, a, b, _, _ => ⟨a, b, by rw [List.map_nil, List.map_nil, List.append_nil]; rfl⟩
  | p :: ps, acc, lv, a, b, h, h2 => by
    rw [List.length_cons] at h h2
    have := addP_len (acc := acc) (p := p)
    obtain ⟨a', b', ih⟩ := hp_loop T ps (addP acc p) (lv ++ [lfD (addP acc p) p]) (.str p.1) (.str p.2) (by omega) (by rw [List.length_append]; simp; omega)
    refine ⟨a', b', ?_⟩
    rw [List.map_cons, forL_cnx (δ1 := [T, kvD acc, .list lv, .str p.1, .str p.2]) rfl (hp_step (by omega) (by omega)), ih, List.foldl_cons]
    have e : lfD (addP acc p) p = lfD (ps.foldl addP (addP acc p)) p := by
      unfold lfD
      rw [fold_ix ps _ (addP_mem.mpr (.inr (.inl rfl))), fold_ix ps _ (addP_mem.mpr (.inr (.inr rfl)))]
    rw [List.map_cons, e, List.append_assoc]
    rfl
def hpD (ps : List (Str × Str)) : D := .tuple [.int (called ps).length, .tuple (ps.map (lfD (called ps)))]
theorem gn_plain {x : Str} (h : GN x) : plainD (.str x) = true := decide_eq_true (by have := h.len; have := size_le; omega)
theorem slip_ok {p : Str × Str} (h1 : GN p.1) (h2 : GN p.2) : plain2 (pairD p) = true ∧ slipD (pairD p) = true := by
  refine ⟨?_, ?_⟩
  · show (plainD (.str p.1) && (plainD (.str p.2) && true)) = true
    rw [gn_plain h1, gn_plain h2]; rfl
  · show (isN p.1 && isN p.2) = true
    rw [h1.nm, h2.nm]; rfl
theorem slips_ok {ps : List (Str × Str)} (h : ps ≠ []) (ha : ∀ p ∈ ps, GN p.1 ∧ GN p.2) : plain3 (psT ps) = true ∧ slipsD (psT ps) = true := by
  refine ⟨?_, ?_⟩
  · show (ps.map pairD).all plain2 = true
    rw [List.all_eq_true]
    intro d hd
    obtain ⟨p, hp, rfl⟩ := List.mem_map.mp hd
    exact (slip_ok (ha p hp).1 (ha p hp).2).1
  · show (!(ps.map pairD).isEmpty && (ps.map pairD).all slipD) = true
    rw [Bool.and_eq_true, List.all_eq_true]
    refine ⟨by simpa using h, ?_⟩
    intro d hd
    obtain ⟨p, hp, rfl⟩ := List.mem_map.mp hd
    exact (slip_ok (ha p hp).1 (ha p hp).2).2
theorem slipsY {d : D} {r : List D} (h : plain3 d = true) (hs : slipsD d = true) : bNot (bE (xCall f__are_slips (xCons (xV 0) xNil))) (d :: r) = some false := by
  have := bN_of (bE_of (call1 (f := xV 0) (δ := d :: r) (a := d) rfl (f_slips d h)))
  rw [hs] at this
  exact this
theorem f_heap {ps : List (Str × Str)} (h : Sl ps) : f_heap_of [psT ps] = some (.tuple [.tuple ((called ps).map .str), hpD ps], [psT ps]) := by
  have sz := size_le
  have hl := h.len
  obtain ⟨p1, p2⟩ := slips_ok h.pos h.all
  obtain ⟨a', b', l⟩ := hp_loop (psT ps) ps [] [] .none .none (by rw [List.length_nil]; omega) (by rw [List.length_nil]; omega)
  refine fn_rt (δ' := [psT ps, kvD (called ps), .list (ps.map (lfD (called ps))), a', b']) ?_ rfl
  show g_heap_of [psT ps, .none, .none, .none, .none] = _
  unfold g_heap_of
  rw [pass_if (slipsY p1 p2), set_of (d := .dict []) rfl]
  show sSeq _ _ [psT ps, kvD [], .none, .none, .none] = _
  rw [set_of (d := .list []) rfl]
  show sSeq _ _ [psT ps, kvD [], .list [], .none, .none] = _
  refine (for_nx (by rfl) l).trans ?_
  show sRet _ [psT ps, kvD (called ps), .list (ps.map (lfD (called ps))), a', b'] = _
  have e1 : xL oLstD (xCons (xV 1) xNil) [psT ps, kvD (called ps), .list (ps.map (lfD (called ps))), a', b'] = some (strD (called ps)) := by
    rw [xL1 (d := kvD (called ps)) rfl]
    show ((dictOf (kvD (called ps))).bind fun p => if p.1 then none else some (PyData.list (p.2.map Prod.fst))) = _
    rw [kv_dict, Option.bind_some]
    show some (PyData.list ((kvF 0 (called ps)).map Prod.fst)) = _
    rw [kv_fst]
  have e2 : xL oLenD (xCons (xV 1) xNil) [psT ps, kvD (called ps), .list (ps.map (lfD (called ps))), a', b'] = some (.int (called ps).length) := by
    rw [xL1 (d := kvD (called ps)) rfl]
    show ((dictOf (kvD (called ps))).bind fun p => if p.1 then none else some (PyData.int p.2.length)) = _
    rw [kv_dict, Option.bind_some]
    show some (PyData.int ((kvF 0 (called ps)).length : Nat)) = _
    rw [kv_len]
  exact ret_of (tp2 (tpl e1) (tp2 e2 (tpl rfl)))
end LawK36

set_option linter.all false
set_option maxRecDepth 10000
namespace LawK36
open PySem Pv
/-! k36: slip_lines, slips_of, kinds -/
def lineS (p : Str × Str) : Str := p.1 ++ Str.ofString " " ++ p.2
theorem tl_line (p : Str × Str) : TL.tl (lineS p) = TL.tl p.1 ++ 32 :: TL.tl p.2 := by
  unfold lineS
  rw [TL.tl_append, TL.tl_append, sp_mk, mkS_tl, List.append_assoc]
  rfl
theorem line_ln {p : Str × Str} (h1 : GN p.1) (h2 : GN p.2) : Ln (lineS p) := by
  have sz := size_le
  have l1 := h1.len
  have l2 := h2.len
  refine ⟨ok_iff.mpr fun c hc => ?_, ?_⟩
  · rw [tl_line] at hc
    rcases List.mem_append.mp hc with z | z
    · exact ok_iff.mp h1.ok c z
    · rcases List.mem_cons.mp z with z | z
      · omega
      · exact ok_iff.mp h2.ok c z
  · rw [slen, tl_line, List.length_append, List.length_cons, ← slen, ← slen]
    omega
theorem line_split {p : Str × Str} (h1 : GN p.1) (h2 : GN p.2) : splS (lineS p) = [p.1, p.2] := by
  rw [splS_cut, tl_line, cut_two _ _ _ (isN_iff h1.nm).2 (isN_iff h2.nm).2, List.nil_append]
  show [mkS (TL.tl p.1), mkS (TL.tl p.2)] = _
  rw [tl_mkS, tl_mkS]
theorem ne_em {x : Str} (h : GN x) : x ≠ emS := fun e => by
  have := (isN_iff h.nm).1
  rw [e, show emS = mkS [] from em_mk] at this
  exact this rfl
theorem line_jd {p : Str × Str} (h1 : GN p.1) (h2 : GN p.2) : jd (lineS p) = none ∧ pr1 (lineS p) = p :=
  ⟨by rw [jd2 (line_split h1 h2), if_neg (ne_em h1), if_neg (ne_em h2)], by rw [pr2 (line_split h1 h2)]⟩
theorem em_app (x : Str) : Str.empty ++ x = x := TL.ext_tl (by rw [TL.tl_append]; rfl)
abbrev lnT (ps : List (Str × Str)) : D := .tuple (ps.map fun p => .str (lineS p))
theorem f_slines {ps : List (Str × Str)} (h0 : ps ≠ []) (hl : ps.length ≤ 1000) (ha : ∀ p ∈ ps, GN p.1 ∧ GN p.2) : f_slip_lines [psT ps] = some (lnT ps, [psT ps]) := by
  have sz := size_le
  obtain ⟨p1, p2⟩ := slips_ok h0 ha
  have c : xCmp (lSeq (xV 0)) (gTupD [1, 2]) bYes (xFs [(x1 dFmt (xV 1)), (xK (.str " ")), (x1 dFmt (xV 2))]) [psT ps, .none, .none] = some (.list (ps.map fun p => .str (lineS p))) :=
    xCmp_m pairD (fun p => .str (lineS p)) (fun p => [psT ps, .str p.1, .str p.2]) ps rfl (by omega) fun p hp => ⟨rfl, by
      have l1 := (ha p hp).1.len
      have l2 := (ha p hp).2.len
      have e1 : dFmt (.str p.1) = some (.str p.1) := if_pos (by omega)
      have e2 : dFmt (.str p.2) = some (.str p.2) := if_pos (by omega)
      have e0 : (Str.ofString " ").length = 1 := by decide +kernel
      unfold xFs
      rw [jsD, x1_of (d := .str p.1) rfl, e1, Option.bind_some]
      show ((if (Str.empty ++ p.1).length ≤ sizeLine then jsD _ (Str.empty ++ p.1) [psT ps, .str p.1, .str p.2] else none).map _) = _
      rw [em_app, if_pos (by omega), jsD, xK_e, Option.bind_some]
      show ((if (p.1 ++ Str.ofString " ").length ≤ sizeLine then jsD _ (p.1 ++ Str.ofString " ") [psT ps, .str p.1, .str p.2] else none).map _) = _
      rw [if_pos (by rw [slen_app, e0]; omega), jsD, x1_of (d := .str p.2) rfl, e2, Option.bind_some]
      show ((if (p.1 ++ Str.ofString " " ++ p.2).length ≤ sizeLine then jsD _ (p.1 ++ Str.ofString " " ++ p.2) [psT ps, .str p.1, .str p.2] else none).map _) = _
      rw [if_pos (by rw [slen_app, slen_app, e0]; omega)]
      rfl⟩
  refine fn_rt (δ' := [psT ps, .none, .none]) ?_ rfl
  show g_slip_lines [psT ps, .none, .none] = _
  unfold g_slip_lines
  rw [pass_if (slipsY p1 p2)]
  exact ret_of (tpl c)
/-- the law's own line -/
theorem line_add {δ : List D} {i : Nat} {p : Str × Str} (h : δ[i]? = some (pairD p)) (h1 : GN p.1) (h2 : GN p.2) : x2 dAdd (x2 dAdd (x2 dIx (xV i) (xK (.int 0))) (xK (.str " "))) (x2 dIx (xV i) (xK (.int 1))) δ = some (.str (lineS p)) := by
  have sz := size_le
  have l1 := h1.len
  have l2 := h2.len
  have e0 : (Str.ofString " ").length = 1 := by decide +kernel
  have a0 : x2 dIx (xV i) (xK (.int 0)) δ = some (.str p.1) := by rw [x2_of (d := pairD p) (e := .int 0) h rfl]; exact at0 _ _
  have a1 : x2 dIx (xV i) (xK (.int 1)) δ = some (.str p.2) := by rw [x2_of (d := pairD p) (e := .int 1) h rfl]; exact at1 _ _ _
  rw [x2_of (d := .str (p.1 ++ Str.ofString " ")) (by rw [x2_of (e := .str (Str.ofString " ")) a0 rfl, dAdd_str (by rw [e0]; omega)]) a1, dAdd_str (by rw [slen_app, e0]; omega)]
  rfl
/-! ### slips_of -/
def ixD (l : Nat × Nat) : D := .tuple [.int l.1, .int l.2]
theorem f_slof {ws : List Str} {lv : List (Nat × Nat)} (hn : ws.Nodup) (hg : ∀ x ∈ ws, isN x = true ∧ x.length ≤ sizeLine) (h : ∀ l ∈ lv, l.1 < ws.length ∧ l.2 < ws.length) (hw : ws.length ≤ sizeLine) (hl : lv.length ≤ sizeLine) :
    f_slips_of [.tuple (ws.map .str), heapD ws.length (lv.map ixD)] = some (.tuple (lv.map fun l => pairD (ws.getD l.1 emS, ws.getD l.2 emS)), [.tuple (ws.map .str), heapD ws.length (lv.map ixD)]) := by
  have pl : plain2 (.tuple (ws.map .str)) = true := by
    show (ws.map PyData.str).all plainD = true
    rw [List.all_eq_true]
    intro d hd
    obtain ⟨x, hx, rfl⟩ := List.mem_map.mp hd
    exact decide_eq_true (hg x hx).2
  have hs : nmsD ws.length (.tuple (ws.map .str)) = true := by
    show (nmOk [] (ws.map .str) && decide ((ws.map PyData.str).length = ws.length)) = true
    rw [nm_true ws [] (fun x hx => (hg x hx).1) (by simpa using hn), List.length_map]
    simp
  have k : xCmp (lSeq (xV 3)) (gTupD [4, 5]) bYes (xL mkTup (xCons (x2 dIx (xV 0) (xV 4)) (xCons (x2 dIx (xV 0) (xV 5)) xNil))) [.tuple (ws.map .str), heapD ws.length (lv.map ixD), .int ws.length, .tuple (lv.map ixD), .none, .none] = some (.list (lv.map fun l => pairD (ws.getD l.1 emS, ws.getD l.2 emS))) :=
    xCmp_m ixD (fun l => pairD (ws.getD l.1 emS, ws.getD l.2 emS)) (fun l => [.tuple (ws.map .str), heapD ws.length (lv.map ixD), .int ws.length, .tuple (lv.map ixD), .int l.1, .int l.2]) lv rfl hl fun l hm => ⟨rfl, by
      obtain ⟨a, b⟩ := h l hm
      have e : ∀ n : Nat, n < ws.length → dIx (.tuple (ws.map .str)) (.int n) = some (.str (ws.getD n emS)) := fun n hn => by
        rw [dIx_t]
        refine atI_of ?_
        rw [List.getElem?_map, List.getElem?_eq_getElem hn, List.getD_eq_getElem?_getD, List.getElem?_eq_getElem hn]
        rfl
      exact tp2 (by rw [x2_of (d := .tuple (ws.map .str)) (e := .int l.1) rfl rfl, e _ a]) (by rw [x2_of (d := .tuple (ws.map .str)) (e := .int l.2) rfl rfl, e _ b])⟩
  refine fn_rt (δ' := [.tuple (ws.map .str), heapD ws.length (lv.map ixD), .int ws.length, .tuple (lv.map ixD), .none, .none]) ?_ rfl
  show g_slips_of [.tuple (ws.map .str), heapD ws.length (lv.map ixD), .none, .none, .none, .none] = _
  unfold g_slips_of
  rw [sSeq_nx (δ' := [.tuple (ws.map .str), heapD ws.length (lv.map ixD), .int ws.length, .tuple (lv.map ixD), .none, .none]) rfl]
  rw [pass_if (by rw [nmsC pl (fun ds e => by cases e; rw [List.length_map]; exact hw), hs]; rfl)]
  exact ret_of (tpl k)
/-! ### the law's kinds -/
theorem bE_not {δ : List D} {f : EF} (h : f δ = some (.bool true)) : bE (x2 dNotBA f (xK (.bool true))) δ = some false := bE_of (by rw [x2_of (e := .bool true) h rfl]; rfl)
theorem bE_notF {δ : List D} {f : EF} (h : f δ = some (.bool false)) : bE (x2 dNotBA f (xK (.bool false))) δ = some false := bE_of (by rw [x2_of (e := .bool false) h rfl]; rfl)
def kq : List (Str × Str) := [("a", "b"), ("~", "~"), ("1", ">:'"), ("aa", "a")]
theorem gn_dec {x : Str} (h : (isN x && PyData.strOk x && decide (x.length ≤ 20)) = true) : GN x := by
  rw [Bool.and_eq_true, Bool.and_eq_true] at h
  exact ⟨h.1.1, h.1.2, of_decide_eq_true h.2⟩
theorem kq_gn : ∀ p ∈ kq, GN p.1 ∧ GN p.2 := fun p hp => by
  have : (kq.all fun p => (isN p.1 && PyData.strOk p.1 && decide (p.1.length ≤ 20)) && (isN p.2 && PyData.strOk p.2 && decide (p.2.length ≤ 20))) = true := by decide +kernel
  have := List.all_eq_true.mp this p hp
  rw [Bool.and_eq_true] at this
  exact ⟨gn_dec this.1, gn_dec this.2⟩
theorem ok_lines {ps : List (Str × Str)} (hl : ps.length ≤ 1000) (ha : ∀ p ∈ ps, GN p.1 ∧ GN p.2) : okS 6 (lnT ps) = true := by
  have sz := size_le
  rw [okS_t, List.length_map, decide_eq_true (by omega), Bool.true_and, List.all_eq_true]
  intro d hd
  obtain ⟨p, hp, rfl⟩ := List.mem_map.mp hd
  exact (line_ln (ha p hp).1 (ha p hp).2).ok
theorem f_kinds {ps : List (Str × Str)} (h : Sl ps) : f__law_kinds [psL ps] = some (.bool true, [psL ps]) := by
  obtain ⟨δ1, l1, a, rfl⟩ := forL_inv (tg := gSet 1) (b := sIf (bE (x2 dNotBA (xCall f_is_slip (xCons (xV 1) xNil)) (xK (.bool true)))) (sRet (xK (.bool false))) sNil) (fun _ δ => ∃ a, δ = [psL ps, a]) (ps.map pairD) 0 [psL ps, .none] ⟨_, rfl⟩ fun j d δ hd ⟨a, e⟩ => by
    subst e
    rw [List.getElem?_map] at hd
    obtain ⟨p, hp, rfl⟩ := Option.map_eq_some_iff.mp hd
    have hp := List.mem_of_getElem? hp
    obtain ⟨s1, s2⟩ := slip_ok (h.all p hp).1 (h.all p hp).2
    refine ⟨[psL ps, pairD p], _, rfl, ?_, pairD p, rfl⟩
    have q := call1 (f := xV 1) (δ := [psL ps, pairD p]) (a := pairD p) rfl (f_slip (pairD p) s1)
    rw [s2] at q
    rw [if_f (bE_not q)]
    rfl
  obtain ⟨δ2, l2, b, rfl⟩ := forL_inv (tg := gSet 1) (b := sIf (bOr (bE (x2 dNotBA (xCall f_is_slip (xRo [0] (xCons (xV 1) xNil))) (xK (.bool true)))) (bNot (bE (xCall (f__law_same 6) (xCons (xCall f_slip_lines (xCons (xL mkTup (xCons (xV 1) xNil)) xNil)) (xCons (xL mkTup (xCons (x2 dAdd (x2 dAdd (x2 dIx (xV 1) (xK (.int 0))) (xK (.str " "))) (x2 dIx (xV 1) (xK (.int 1)))) xNil)) xNil)))))) (sRet (xK (.bool false))) sNil)
    (fun _ δ => ∃ a, δ = [psL ps, a]) (kq.map pairD) 0 [psL ps, a] ⟨_, rfl⟩ fun j d δ hd ⟨a, e⟩ => by
    subst e
    rw [List.getElem?_map] at hd
    obtain ⟨p, hp, rfl⟩ := Option.map_eq_some_iff.mp hd
    have hp := List.mem_of_getElem? hp
    obtain ⟨g1, g2⟩ := kq_gn p hp
    obtain ⟨s1, s2⟩ := slip_ok g1 g2
    refine ⟨[psL ps, pairD p], _, rfl, ?_, pairD p, rfl⟩
    have q := call1K (f := xV 1) (δ := [psL ps, pairD p]) (a := pairD p) rfl (f_slip (pairD p) s1)
    rw [s2] at q
    have one : ∀ r ∈ [p], GN r.1 ∧ GN r.2 := fun r hr => by rw [List.mem_singleton.mp hr]; exact ⟨g1, g2⟩
    have sl := f_slines (ps := [p]) (by simp) (by simp) one
    have q2 := smN (δ := [psL ps, pairD p]) (f := xCall f_slip_lines (xCons (xL mkTup (xCons (xV 1) xNil)) xNil)) (g := xL mkTup (xCons (x2 dAdd (x2 dAdd (x2 dIx (xV 1) (xK (.int 0))) (xK (.str " "))) (x2 dIx (xV 1) (xK (.int 1)))) xNil)) (d := lnT [p]) (call1 (tp1 rfl) sl) (tp1 (line_add rfl g1 g2)) (ok_lines (by simp) one)
    rw [if_f (or_f (bE_not q) q2)]
    rfl
  refine fn_rt (δ' := [psL ps, b]) ?_ rfl
  show g__law_kinds [psL ps, .none] = _
  unfold g__law_kinds
  refine (for_nx (by rfl) l1).trans ?_
  refine (for_nx (ds := kq.map pairD) ?_ l2).trans (ret_of rfl)
  have e : ∀ (x y : Str), xL mkTup (xCons (xK (.str x)) (xCons (xK (.str y)) xNil)) [psL ps, a] = some (pairD (x, y)) := fun x y => tp2 rfl rfl
  rw [lSeq_e, xL_e, xCons_e, e, Option.bind_some, xCons_e, e, Option.bind_some, xCons_e, e, Option.bind_some, xCons_e, e, Option.bind_some, xNil_e, Option.bind_some, Option.bind_some, Option.bind_some, Option.bind_some, Option.bind_some, mkL _ (by simp)]
  rfl
end LawK36

set_option linter.all false
set_option maxRecDepth 10000
namespace LawK36
open PySem Pv
/-! k36: what is no row of slips -/
def badL : List D := [.tuple [.str "a", .str ""], .tuple [.str "", .str "b"], .tuple [.str "a b", .str "c"], .tuple [.str "a", .str " "], .tuple [.str "a", .str "c "], .tuple [.str " a", .str "c"], .tuple [.str "a"], .tuple [.str "a", .str "b", .str "c"], .tuple [],
  .list [.str "a", .str "b"], .str "ab", .tuple [.str "a", .int 1], .tuple [.bool true, .str "b"], .tuple [.str "a", .none], .tuple [.tuple [.str "a"], .str "b"], .none, .int 7, .tuple [.str "a", .list [.str "b"]]]
theorem lst_nil {δ : List D} : xNil δ = some [] := rfl
theorem lst_cons {δ : List D} {f : EF} {r : LF} {d : D} {ds : List D} (h1 : f δ = some d) (h2 : r δ = some ds) : xCons f r δ = some (d :: ds) := by rw [xCons_e, h1, Option.bind_some, h2]; rfl
theorem tp_of {δ : List D} {r : LF} {ds : List D} (h : r δ = some ds) (hl : ds.length ≤ 1000) : xL mkTup r δ = some (.tuple ds) := by rw [xL_e, h, Option.bind_some]; exact mkT _ hl
theorem ls_of {δ : List D} {r : LF} {ds : List D} (h : r δ = some ds) (hl : ds.length ≤ 1000) : xL mkLst r δ = some (.list ds) := by rw [xL_e, h, Option.bind_some]; exact mkL _ hl
theorem cat_e (a b : List D) (h : a.length + b.length ≤ sizeLine) : dCatL (.list a) (.list b) = some (.list (a ++ b)) := by
  show (if a.length + b.length ≤ sizeLine then some (PyData.list (a ++ b)) else none) = _
  rw [if_pos h]
theorem f_bads : f__law_bad_slips [] = some (.list badL, []) := by
  have t2 : ∀ {δ : List D} (x y : D), xL mkTup (xCons (xK x) (xCons (xK y) xNil)) δ = some (.tuple [x, y]) := fun x y => tp2 rfl rfl
  have t1 : ∀ {δ : List D} (x : D), xL mkTup (xCons (xK x) xNil) δ = some (.tuple [x]) := fun x => tp1 rfl
  refine fn_rt (δ' := [.list (badL.take 9)]) ?_ rfl
  show g__law_bad_slips [.none] = _
  unfold g__law_bad_slips
  rw [set_of (d := .list (badL.take 9)) (ls_of (lst_cons (t2 _ _) (lst_cons (t2 _ _) (lst_cons (t2 _ _) (lst_cons (t2 _ _) (lst_cons (t2 _ _) (lst_cons (t2 _ _) (lst_cons (t1 _) (lst_cons (tp3 rfl rfl rfl) (lst_cons (tp_of lst_nil (by simp)) lst_nil))))))))) (by simp [badL]))]
  show sRet _ [.list (badL.take 9)] = _
  refine ret_of ?_
  have e2 : xL mkLst (xCons (xL mkLst (xCons (xK (.str "a")) (xCons (xK (.str "b")) xNil))) (xCons (xK (.str "ab")) (xCons (xL mkTup (xCons (xK (.str "a")) (xCons (xK (.int 1)) xNil))) (xCons (xL mkTup (xCons (xK (.bool true)) (xCons (xK (.str "b")) xNil))) (xCons (xL mkTup (xCons (xK (.str "a")) (xCons (xK .none) xNil))) (xCons (xL mkTup (xCons (xL mkTup (xCons (xK (.str "a")) xNil)) (xCons (xK (.str "b")) xNil))) (xCons (xK .none) (xCons (xK (.int 7)) (xCons (xL mkTup (xCons (xK (.str "a")) (xCons (xL mkLst (xCons (xK (.str "b")) xNil)) xNil))) xNil))))))))) [.list (badL.take 9)] = some (.list (badL.drop 9)) :=
    ls_of (lst_cons (ls_of (lst_cons rfl (lst_cons rfl lst_nil)) (by simp)) (lst_cons rfl (lst_cons (t2 _ _) (lst_cons (t2 _ _) (lst_cons (t2 _ _) (lst_cons (tp2 (t1 _) rfl) (lst_cons rfl (lst_cons rfl (lst_cons (tp2 rfl (ls_of (lst_cons rfl lst_nil) (by simp))) lst_nil))))))))) (by simp [badL])
  rw [x2_of (d := .list (badL.take 9)) rfl e2]
  have hd : dCatL (.list (badL.take 9)) (.list (badL.drop 9)) = some (.list (badL.take 9 ++ badL.drop 9)) := cat_e _ _ (by have := size_le; show 9 + 9 ≤ sizeLine; omega)
  rw [hd, List.take_append_drop]
theorem bad_all : (badL.all fun d => plain2 d && !slipD d) = true := by decide +kernel
theorem bad_one {d : D} (h : d ∈ badL) : plain2 d = true ∧ slipD d = false := by
  have := List.all_eq_true.mp bad_all d h
  rw [Bool.and_eq_true] at this
  exact ⟨this.1, by simpa using this.2⟩
/-! ### slices -/
theorem cut_lo (ds : List D) (v : Nat) : cutD ds none (some (v : Int)) = ds.take v := by
  unfold cutD
  rw [HT.sIx_none, HT.sIx_nat, List.drop_zero, Nat.sub_zero]
  by_cases h : v ≤ ds.length
  · rw [Nat.min_eq_left h]
  · rw [Nat.min_eq_right (by omega), List.take_length, List.take_of_length_le (by omega)]
theorem cut_hi (ds : List D) (v : Nat) : cutD ds (some (v : Int)) none = ds.drop v := by
  unfold cutD
  rw [HT.sIx_none, HT.sIx_nat, List.take_of_length_le (by rw [List.length_drop]; omega)]
  by_cases h : v ≤ ds.length
  · rw [Nat.min_eq_left h]
  · rw [Nat.min_eq_right (by omega), List.drop_length, List.drop_of_length_le (by omega)]
theorem cut_m1 (ds : List D) (d : D) : cutD (ds ++ [d]) none (some (-1)) = ds := by
  unfold cutD
  rw [HT.sIx_none]
  have e : HT.sIx (ds ++ [d]).length (ds ++ [d]).length (some (-1)) = ds.length := by
    show (if (-1 : Int) < 0 then ((-1 : Int) + ((ds ++ [d]).length : Nat)).toNat else min (-1 : Int).toNat (ds ++ [d]).length) = _
    rw [if_pos (by decide), List.length_append, List.length_singleton]
    omega
  rw [e, List.drop_zero, Nat.sub_zero, List.take_left]
theorem slLo {δ : List D} {i j : Nat} {ds : List D} {v : Nat} (h1 : δ[i]? = some (.list ds)) (h2 : δ[j]? = some (.int v)) : xSlL (xV i) oNo (oInt1 (xV j)) δ = some (.list (ds.take v)) := by
  unfold xSlL oInt1 oNo
  rw [xV_e, h1, Option.bind_some]
  show ((xV j δ).bind _).bind _ = _
  rw [xV_e, h2]
  show some (PyData.list (cutD ds none (some (v : Int)))) = _
  rw [cut_lo]
theorem slHi {δ : List D} {i : Nat} {f : EF} {ds : List D} {v : Nat} (h1 : δ[i]? = some (.list ds)) (h2 : f δ = some (.int v)) : xSlL (xV i) (oInt1 f) oNo δ = some (.list (ds.drop v)) := by
  unfold xSlL oInt1 oNo
  rw [xV_e, h1, Option.bind_some]
  show ((f δ).bind _).bind _ = _
  rw [h2]
  show some (PyData.list (cutD ds (some (v : Int)) none)) = _
  rw [cut_hi]
theorem plus_t (a b : List D) (h : a.length + b.length ≤ sizeLine) : dPlus (.tuple a) (.tuple b) = some (.tuple (a ++ b)) := if_pos h
/-- t[:v] + (s,) + t[w:] -/
theorem mid_of {δ : List D} {i j : Nat} {f g : EF} {ds : List D} {v w : Nat} {s : D} (h1 : δ[i]? = some (.list ds)) (h2 : δ[j]? = some (.int v)) (h3 : f δ = some s) (h4 : g δ = some (.int w)) (hl : ds.length ≤ 10000) :
    x2 dPlus (x2 dPlus (xL oTup (xCons (xSlL (xV i) oNo (oInt1 (xV j))) xNil)) (xL mkTup (xCons f xNil))) (xL oTup (xCons (xSlL (xV i) (oInt1 g) oNo) xNil)) δ = some (.tuple (ds.take v ++ s :: ds.drop w)) := by
  have sz := size_le
  have l1 : (ds.take v).length ≤ ds.length := by rw [List.length_take]; omega
  have l2 : (ds.drop w).length ≤ ds.length := by rw [List.length_drop]; omega
  rw [x2_of (d := .tuple (ds.take v ++ [s])) (e := .tuple (ds.drop w)) (by rw [x2_of (d := .tuple (ds.take v)) (e := .tuple [s]) (tpl (slLo h1 h2)) (tp1 h3), plus_t _ _ (by simp only [List.length_singleton]; omega)]) (tpl (slHi h1 h4)), plus_t _ _ (by rw [List.length_append, List.length_singleton]; omega)]
  rw [List.append_assoc]
  rfl
/-! ### likeness of lists of pairs -/
theorem shp_pairs : ∀ {ps : List (Str × Str)}, (∀ p ∈ ps, PyData.strOk p.1 = true ∧ PyData.strOk p.2 = true) → PyData.canLayAll0 (ps.map pairD) = true ∧ PyData.depthAll (ps.map pairD) ≤ 1
  | [], _ => by simp [PyData.canLayAll0, PyData.depthAll]
  | p :: ps, h => by
    obtain ⟨h1, h2⟩ := shp_pairs (ps := ps) fun q hq => h q (List.mem_cons_of_mem _ hq)
    obtain ⟨a, b⟩ := h p List.mem_cons_self
    simp [PyData.canLayAll0, PyData.depthAll, pairD, PyData.canLay0, PyData.depth, a, b, h1]
    omega
theorem eqv_pairs : ∀ ps : List (Str × Str), PyData.eqvAll (ps.map pairD) (ps.map pairD) = true
  | [] => by simp [PyData.eqvAll]
  | p :: ps => by
    have := eqv_pairs ps
    simp [PyData.eqvAll, PyData.eqv, pairD, this]
theorem dEq_pairs {ps : List (Str × Str)} (h : ∀ p ∈ ps, PyData.strOk p.1 = true ∧ PyData.strOk p.2 = true) : dEq (psL ps) (psL ps) = some (.bool true) := by
  obtain ⟨h1, h2⟩ := shp_pairs h
  have e : SeqAt.shaped (psL ps) = true := by
    unfold SeqAt.shaped
    rw [Bool.and_eq_true]
    refine ⟨by rw [PyData.canLay0]; exact h1, decide_eq_true ?_⟩
    rw [PyData.depth]
    omega
  unfold dEq
  rw [e]
  show some (PyData.bool (PyData.eqv _ _)) = _
  rw [PyData.eqv, eqv_pairs]
/-! ### the law's -/
theorem no_mid {a b : List D} {s : D} (ha : a.all plain2 = true) (hb : b.all plain2 = true) (hs : plain2 s = true ∧ slipD s = false) : plain3 (.tuple (a ++ s :: b)) = true ∧ slipsD (.tuple (a ++ s :: b)) = false := by
  refine ⟨?_, ?_⟩
  · show (a ++ s :: b).all plain2 = true
    rw [List.all_append, List.all_cons, ha, hb, hs.1]; rfl
  · show (!(a ++ s :: b).isEmpty && (a ++ s :: b).all slipD) = false
    rw [List.all_append, List.all_cons, hs.2]
    simp
theorem f_bad (ns : List Int) {ps : List (Str × Str)} (h : Sl ps) : f__law_bad [scr ns, psL ps] = some (.bool true, [scr ns, psL ps]) := by
  have sz := size_le
  have hlen := h.len
  obtain ⟨p0, ps', hps⟩ : ∃ p0 ps', ps = p0 :: ps' := List.exists_cons_of_ne_nil h.pos
  have ok : ∀ p ∈ ps, PyData.strOk p.1 = true ∧ PyData.strOk p.2 = true := fun p hp => ⟨(h.all p hp).1.ok, (h.all p hp).2.ok⟩
  have pl2 : ∀ l : List (Str × Str), (∀ p ∈ l, p ∈ ps) → (l.map pairD).all plain2 = true := fun l hl => List.all_eq_true.mpr fun d hd => by
    obtain ⟨p, hp, rfl⟩ := List.mem_map.mp hd
    exact (slip_ok (h.all p (hl p hp)).1 (h.all p (hl p hp)).2).1
  -- is_slip of each
  obtain ⟨δ1, l1, a, rfl⟩ := forL_inv (tg := gSet 3) (b := sIf (bE (x2 dNotBA (xCall f_is_slip (xCons (xV 3) xNil)) (xK (.bool false)))) (sRet (xK (.bool false))) sNil) (fun _ δ => ∃ a, δ = [scr ns, psL ps, .list badL, a, .none, .none, .none, .none, .none]) badL 0 [scr ns, psL ps, .list badL, .none, .none, .none, .none, .none, .none] ⟨_, rfl⟩ fun j d δ hd ⟨a, e⟩ => by
    subst e
    obtain ⟨b1, b2⟩ := bad_one (List.mem_of_getElem? hd)
    refine ⟨[scr ns, psL ps, .list badL, d, .none, .none, .none, .none, .none], _, rfl, ?_, d, rfl⟩
    have q := call1 (f := xV 3) (δ := [scr ns, psL ps, .list badL, d, .none, .none, .none, .none, .none]) (a := d) rfl (f_slip d b1)
    rw [b2] at q
    rw [if_f (bE_notF q)]
    rfl
  -- the spoilt one, its place
  obtain ⟨v, hv, ev⟩ := lnum_of (δ := [scr ns, psL ps, .list badL, a, .none, .none, .none, .none, .none]) (f := xV 0) (g := xK (.int 7)) (h := xL oLen (xCons (xV 2) xNil)) (ns := ns) (k := 7) (L := 18) rfl rfl rfl (by decide)
  have hv' : v < badL.length := by show v < 18; omega
  have es : x2 dIx (xV 2) (xCall f__law_num (xCons (xV 0) (xCons (xK (.int 7)) (xCons (xL oLen (xCons (xV 2) xNil)) xNil)))) [scr ns, psL ps, .list badL, a, .none, .none, .none, .none, .none] = some badL[v] := by
    rw [x2_of (d := .list badL) rfl ev, dIx_l]
    exact atI_of (List.getElem?_eq_getElem hv')
  obtain ⟨s, hs⟩ : ∃ s, s = badL[v] := ⟨_, rfl⟩
  have hsb := bad_one (d := s) (by rw [hs]; exact List.getElem_mem hv')
  rw [← hs] at es
  obtain ⟨w, hw, ew⟩ := lnum_of (δ := [scr ns, psL ps, .list badL, a, s, .none, .none, .none, .none]) (f := xV 0) (g := xK (.int 8)) (h := x2 dAdd (xL oLen (xCons (xV 1) xNil)) (xK (.int 1))) (ns := ns) (k := 8) (L := ((ps.length + 1 : Nat) : Int)) rfl rfl (by
    rw [x2_of (d := .int ps.length) (e := .int 1) (by rw [xL1 (d := psL ps) rfl]; show some (PyData.int ((ps.map pairD).length : Nat)) = _; rw [List.length_map]) rfl, dAdd_e]
    congr 2) (by omega)
  -- what is asked
  obtain ⟨asked, hask⟩ : ∃ l : List D, l = [.tuple [], psL ps, .none, .str "ab", .int 7, .tuple [.str "a", .str "b"], pairD p0, .tuple ((ps.map pairD).take w ++ s :: (ps.map pairD).drop w)] := ⟨_, rfl⟩
  have hno : ∀ d ∈ asked, plain3 d = true ∧ slipsD d = false := fun d hd => by
    rw [hask] at hd
    simp only [List.mem_cons, List.not_mem_nil, or_false] at hd
    rcases hd with rfl | rfl | rfl | rfl | rfl | rfl | rfl | rfl
    · exact ⟨rfl, rfl⟩
    · exact ⟨rfl, rfl⟩
    · exact ⟨rfl, rfl⟩
    · exact ⟨rfl, rfl⟩
    · exact ⟨rfl, rfl⟩
    · exact ⟨rfl, rfl⟩
    · exact ⟨rfl, rfl⟩
    · rw [← List.map_take, ← List.map_drop]
      exact no_mid (pl2 _ fun p hp => List.mem_of_mem_take hp) (pl2 _ fun p hp => List.mem_of_mem_drop hp) hsb
  have ea : xL mkLst (xCons (xL mkTup xNil) (xCons (xV 6) (xCons (xK .none) (xCons (xK (.str "ab")) (xCons (xK (.int 7)) (xCons (xL mkTup (xCons (xK (.str "a")) (xCons (xK (.str "b")) xNil))) (xCons (x2 dIx (xV 1) (xK (.int 0))) (xCons (x2 dPlus (x2 dPlus (xL oTup (xCons (xSlL (xV 1) oNo (oInt1 (xV 5))) xNil)) (xL mkTup (xCons (xV 4) xNil))) (xL oTup (xCons (xSlL (xV 1) (oInt1 (xV 5)) oNo) xNil))) xNil)))))))) [scr ns, psL ps, .list badL, a, s, .int w, psL ps, .none, .none] = some (.list asked) := by
    rw [hask]
    refine ls_of (lst_cons (tp_of lst_nil (by simp)) (lst_cons rfl (lst_cons rfl (lst_cons rfl (lst_cons rfl (lst_cons (tp2 rfl rfl) (lst_cons ?_ (lst_cons ?_ lst_nil)))))))) (by simp)
    · rw [x2_of (d := psL ps) (e := .int 0) rfl rfl, dIx_l, hps]
      exact at0 _ _
    · exact mid_of (ds := ps.map pairD) rfl rfl rfl rfl (by rw [List.length_map]; omega)
  obtain ⟨δ2, l2, b, rfl⟩ := forL_inv (tg := gSet 8) (b := sIf (bOr (bNot (bE (xCall f__law_refused (xCons (xK (.int 0)) (xCons (xV 8) (xCons (xK (.int 0)) (xCons (xK (.str "slips")) xNil))))))) (bNot (bE (xCall f__law_refused (xCons (xK (.int 1)) (xCons (xV 8) (xCons (xK (.int 0)) (xCons (xK (.str "slips")) xNil)))))))) (sRet (xK (.bool false))) sNil)
    (fun _ δ => ∃ b, δ = [scr ns, psL ps, .list badL, a, s, .int w, psL ps, .list asked, b]) asked 0 [scr ns, psL ps, .list badL, a, s, .int w, psL ps, .list asked, .none] ⟨_, rfl⟩ fun j d δ hd ⟨b, e⟩ => by
    subst e
    obtain ⟨n1, n2⟩ := hno d (List.mem_of_getElem? hd)
    refine ⟨[scr ns, psL ps, .list badL, a, s, .int w, psL ps, .list asked, d], _, rfl, ?_, d, rfl⟩
    have q0 : bNot (bE (xCall f__law_refused (xCons (xK (.int 0)) (xCons (xV 8) (xCons (xK (.int 0)) (xCons (xK (.str "slips")) xNil)))))) [scr ns, psL ps, .list badL, a, s, .int w, psL ps, .list asked, d] = some false := bN_of (k := true) (bE_of (by
      rw [xCall_e]
      show ((f__law_refused [.int 0, d, .int 0, .str "slips"]).map _) = _
      rw [f_ref0 n1 n2]; rfl))
    have q1 : bNot (bE (xCall f__law_refused (xCons (xK (.int 1)) (xCons (xV 8) (xCons (xK (.int 0)) (xCons (xK (.str "slips")) xNil)))))) [scr ns, psL ps, .list badL, a, s, .int w, psL ps, .list asked, d] = some false := bN_of (k := true) (bE_of (by
      rw [xCall_e]
      show ((f__law_refused [.int 1, d, .int 0, .str "slips"]).map _) = _
      rw [f_ref1 n1 n2]; rfl))
    rw [if_f (or_f q0 q1)]
    rfl
  refine fn_rt (δ' := [scr ns, psL ps, .list badL, a, s, .int w, psL ps, .list asked, b]) ?_ rfl
  show g__law_bad [scr ns, psL ps, .none, .none, .none, .none, .none, .none, .none] = _
  unfold g__law_bad
  rw [set_of (d := .list badL) (call0 f_bads)]
  show sSeq _ _ [scr ns, psL ps, .list badL, .none, .none, .none, .none, .none, .none] = _
  refine (for_nx (by rfl) l1).trans ?_
  rw [set_of es]
  show sSeq _ _ [scr ns, psL ps, .list badL, a, s, .none, .none, .none, .none] = _
  rw [set_of ew]
  show sSeq _ _ [scr ns, psL ps, .list badL, a, s, .int w, .none, .none, .none] = _
  rw [set_of (d := psL ps) (by rw [xL1 (d := psL ps) rfl]; rfl)]
  show sSeq _ _ [scr ns, psL ps, .list badL, a, s, .int w, psL ps, .none, .none] = _
  rw [set_of ea]
  show sSeq _ _ [scr ns, psL ps, .list badL, a, s, .int w, psL ps, .list asked, .none] = _
  refine (for_nx (by rfl) l2).trans (ret_of ?_)
  rw [x2_of (d := psL ps) (e := psL ps) rfl rfl, dEq_pairs ok]
end LawK36

set_option linter.all false
set_option maxRecDepth 10000
namespace LawK36
open PySem Pv
/-! k36: names that are none -/
/-- names for N + 1 words -/
structure An (an : List Str) (N : Nat) : Prop where
  len : an.length = N + 1
  pos : 1 ≤ N
  small : N ≤ 100
  nd : an.Nodup
  all : ∀ x ∈ an, isN x = true ∧ PyData.strOk x = true ∧ x.length ≤ 40
theorem An.plain {an : List Str} {N : Nat} (h : An an N) {x : Str} (hx : x ∈ an) : plainD (.str x) = true := decide_eq_true (by have := (h.all x hx).2.2; have := size_le; omega)
theorem An.pl {an : List Str} {N : Nat} (h : An an N) {l : List Str} (hl : ∀ x ∈ l, x ∈ an) : (l.map PyData.str).all plainD = true := List.all_eq_true.mpr fun d hd => by
  obtain ⟨x, hx, rfl⟩ := List.mem_map.mp hd
  exact h.plain (hl x hx)
/-- what is put in -/
def spL (an : List Str) (w : Nat) : List D := [.str "", .str " ", .str "a b", .str "y ", .int 0, .bool true, .none, .tuple [.str "y"], .str (if w = 0 then an.getLast?.getD emS else an.getD (w - 1) emS)]
def midD (an : List Str) (w : Nat) (d : D) : D := .tuple ((an.map PyData.str).take w ++ d :: (an.map PyData.str).drop (w + 1))
theorem lit_bad : ([.str "", .str " ", .str "a b", .str "y ", .int 0, .bool true, .none, .tuple [.str "y"]] : List D).all (fun d => plainD d && !nameD d) = true := by decide +kernel
theorem mid_no {an : List Str} {N w : Nat} (h : An an N) (hw : w < N + 1) {d : D} (hd : d ∈ spL an w) : plain2 (midD an w d) = true ∧ nmsD (N + 1) (midD an w d) = false := by
  have hlen := h.len
  have key : ∀ d : D, plainD d = true → nmOk [] ((an.map PyData.str).take w ++ d :: (an.map PyData.str).drop (w + 1)) = false → plain2 (midD an w d) = true ∧ nmsD (N + 1) (midD an w d) = false := fun d hp hn => by
    refine ⟨?_, ?_⟩
    · show ((an.map PyData.str).take w ++ d :: (an.map PyData.str).drop (w + 1)).all plainD = true
      rw [List.all_append, List.all_cons, hp, ← List.map_take, ← List.map_drop, h.pl fun x hx => List.mem_of_mem_take hx, h.pl fun x hx => List.mem_of_mem_drop hx]
      rfl
    · show (nmOk [] ((an.map PyData.str).take w ++ d :: (an.map PyData.str).drop (w + 1)) && _) = false
      rw [hn]; rfl
  have hm : d ∈ ([.str "", .str " ", .str "a b", .str "y ", .int 0, .bool true, .none, .tuple [.str "y"]] : List D) ∨ d = .str (if w = 0 then an.getLast?.getD emS else an.getD (w - 1) emS) := by
    unfold spL at hd
    simp only [List.mem_cons, List.not_mem_nil, or_false] at hd ⊢
    rcases hd with h | h | h | h | h | h | h | h | h
    · exact .inl (.inl h)
    · exact .inl (.inr (.inl h))
    · exact .inl (.inr (.inr (.inl h)))
    · exact .inl (.inr (.inr (.inr (.inl h))))
    · exact .inl (.inr (.inr (.inr (.inr (.inl h)))))
    · exact .inl (.inr (.inr (.inr (.inr (.inr (.inl h))))))
    · exact .inl (.inr (.inr (.inr (.inr (.inr (.inr (.inl h)))))))
    · exact .inl (.inr (.inr (.inr (.inr (.inr (.inr (.inr h)))))))
    · exact .inr h
  rcases hm with hl | rfl
  · have := List.all_eq_true.mp lit_bad d hl
    rw [Bool.and_eq_true] at this
    refine key d this.1 ?_
    rw [← List.map_take]
    refine nm_mid d _ [] _ fun x e hn => ?_
    subst e
    have q : nameD (.str x) = false := by simpa using this.2
    rw [show nameD (.str x) = isN x from rfl, hn] at q
    cases q
  · by_cases h0 : w = 0
    · subst h0
      obtain ⟨l, hl⟩ : ∃ l, an.getLast? = some l := by
        cases e : an.getLast? with
        | none => rw [List.getLast?_eq_none_iff] at e; rw [e] at hlen; cases hlen
        | some l => exact ⟨l, rfl⟩
      rw [if_pos rfl, hl]
      have hme : l ∈ an := List.mem_of_getLast? hl
      refine key _ (h.plain hme) ?_
      obtain ⟨a, r, e⟩ : ∃ a r, an = a :: r := List.exists_cons_of_ne_nil fun z => by rw [z] at hlen; cases hlen
      have hr : r ≠ [] := fun z => by rw [e, z] at hlen; have := h.pos; simp at hlen; omega
      have hl2 : r.getLast? = some l := by
        rw [e, List.getLast?_cons] at hl
        cases q : r.getLast? with
        | none => exact absurd (List.getLast?_eq_none_iff.mp q) hr
        | some l' => rw [q] at hl; simpa using hl
      obtain ⟨i, ei⟩ : ∃ i, r = i ++ [l] := List.getLast?_eq_some_iff.mp hl2
      show nmOk [] ([] ++ .str l :: (an.map PyData.str).drop 1) = false
      rw [e, List.map_cons, List.drop_succ_cons, List.drop_zero, ei, List.map_append, List.nil_append]
      show (isN l && (!decide (l ∈ ([] : List Str)) && nmOk ([] ++ [l]) (i.map PyData.str ++ [.str l]))) = false
      rw [nm_late l (i.map PyData.str) _ [] (by simp)]
      simp
    · rw [if_neg h0]
      have hw1 : w - 1 < an.length := by omega
      have eg : an.getD (w - 1) emS = an[w - 1] := by rw [List.getD_eq_getElem?_getD, List.getElem?_eq_getElem hw1]; rfl
      have hme : an.getD (w - 1) emS ∈ an := by rw [eg]; exact List.getElem_mem hw1
      refine key _ (h.plain hme) ?_
      rw [← List.map_take]
      refine nm_mid _ _ [] _ fun x e _ => ?_
      have ex : an.getD (w - 1) emS = x := by injection e
      rw [List.nil_append, ← ex, eg]
      have : (an.take w)[w - 1]? = some an[w - 1] := by rw [List.getElem?_take_of_lt (by omega), List.getElem?_eq_getElem hw1]
      exact List.mem_of_getElem? this
theorem dJoin_e {ws : List Str} (h : (ws.map (·.length)).sum ≤ 100000) : dJoin (.str emS) (strD ws) = some (.str (Txt.join emS ws)) := by
  have h0 : emS.length = 0 := by decide +kernel
  show ((strsD (ws.map .str)).bind fun ys => if (ys.map (·.length)).sum + ys.length * emS.length ≤ 16777216 then some (PyData.str (Txt.join emS ys)) else none) = _
  rw [strsD_e, Option.bind_some, if_pos (by rw [h0]; omega)]
theorem sum_le : ∀ (ws : List Str), (∀ x ∈ ws, x.length ≤ 40) → (ws.map (·.length)).sum ≤ 40 * ws.length
  | [], _ => Nat.le_refl _
  | x :: ws, h => by
    have := sum_le ws fun y hy => h y (List.mem_cons_of_mem _ hy)
    have := h x List.mem_cons_self
    rw [List.map_cons, List.sum_cons, List.length_cons]
    omega
theorem last_getD (an : List Str) (h : an ≠ []) : L2.atI (an.map PyData.str) (-1) = some (.str (an.getLast?.getD emS)) := by
  obtain ⟨l, hl⟩ : ∃ l, an.getLast? = some l := by
    cases e : an.getLast? with
    | none => exact absurd (List.getLast?_eq_none_iff.mp e) h
    | some l => exact ⟨l, rfl⟩
  obtain ⟨i, ei⟩ := List.getLast?_eq_some_iff.mp hl
  rw [hl, ei, List.map_append]
  exact last_at _ _
theorem f_names_e (ns : List Int) {an : List Str} {N : Nat} {lv : List D} (h : An an N) : f__law_names [scr ns, strD an, heapD (N + 1) lv] = some (.bool true, [scr ns, strD an, heapD (N + 1) lv]) := by
  have sz := size_le
  have hlen := h.len
  have hsm := h.small
  have hne : an ≠ [] := fun z => by rw [z] at hlen; cases hlen
  obtain ⟨B, hB⟩ : ∃ B, B = heapD (N + 1) lv := ⟨_, rfl⟩
  obtain ⟨xs, l, exs⟩ : ∃ xs l, an = xs ++ [l] := by
    obtain ⟨l, hl⟩ : ∃ l, an.getLast? = some l := by
      cases e : an.getLast? with
      | none => exact absurd (List.getLast?_eq_none_iff.mp e) hne
      | some l => exact ⟨l, rfl⟩
    obtain ⟨i, ei⟩ := List.getLast?_eq_some_iff.mp hl
    exact ⟨i, l, ei⟩
  obtain ⟨A0, hA0⟩ : ∃ l : List D, l = [.tuple (xs.map .str), .tuple (an.map .str ++ [.str "z"]), strD an, .none, .str (Txt.join emS an), .tuple []] := ⟨_, rfl⟩
  have e0 : xL mkLst (xCons (xL oTup (xCons (xSlL (xV 1) oNo (oInt1 (x1 dNeg (xK (.int 1))))) xNil)) (xCons (x2 dPlus (xL oTup (xCons (xV 1) xNil)) (xL mkTup (xCons (xK (.str "z")) xNil))) (xCons (xL oLst (xCons (xV 1) xNil)) (xCons (xK .none) (xCons (x2 dJoin (xK (.str "")) (xV 1)) (xCons (xL mkTup xNil) xNil)))))) [scr ns, strD an, B, .none, .none, .none, .none] = some (.list A0) := by
    rw [hA0]
    refine ls_of (lst_cons (tpl ?_) (lst_cons ?_ (lst_cons ?_ (lst_cons rfl (lst_cons ?_ (lst_cons (tp_of lst_nil (by simp)) lst_nil)))))) (by simp)
    · show some (PyData.list (cutD (an.map .str) none (some (-1)))) = _
      rw [exs, List.map_append]
      exact congrArg some (congrArg PyData.list (cut_m1 _ _))
    · rw [x2_of (d := .tuple (an.map .str)) (e := .tuple [.str "z"]) (tpl rfl) (tp1 rfl), plus_t _ _ (by rw [List.length_map]; simp only [List.length_singleton]; omega)]
    · rw [xL1 (d := strD an) rfl]; rfl
    · rw [x2_of (d := .str emS) (e := strD an) rfl rfl]
      exact dJoin_e (by have := sum_le an fun x hx => (h.all x hx).2.2; omega)
  obtain ⟨w, hw, ew⟩ := lnum_of (δ := [scr ns, strD an, B, .list A0, .none, .none, .none]) (f := xV 0) (g := xK (.int 9)) (h := xL oLen (xCons (xV 1) xNil)) (ns := ns) (k := 9) (L := ((N + 1 : Nat) : Int)) rfl rfl (by
    rw [xL1 (d := strD an) rfl]
    show some (PyData.int ((an.map PyData.str).length : Nat)) = _
    rw [List.length_map, hlen]) (by omega)
  have hw' : w < N + 1 := by omega
  have es : lSeq (xL mkLst (xCons (xK (.str "")) (xCons (xK (.str " ")) (xCons (xK (.str "a b")) (xCons (xK (.str "y ")) (xCons (xK (.int 0)) (xCons (xK (.bool true)) (xCons (xK .none) (xCons (xL mkTup (xCons (xK (.str "y")) xNil)) (xCons (x2 dIx (xV 1) (x2 dSub (xV 4) (xK (.int 1)))) xNil)))))))))) [scr ns, strD an, B, .list A0, .int w, .none, .none] = some (spL an w) := by
    rw [lSeq_e, ls_of (ds := spL an w) (lst_cons rfl (lst_cons rfl (lst_cons rfl (lst_cons rfl (lst_cons rfl (lst_cons rfl (lst_cons rfl (lst_cons (tp1 rfl) (lst_cons ?_ lst_nil))))))))) (by simp [spL])]
    · rfl
    · rw [x2_of (d := strD an) (e := .int ((w : Int) - 1)) rfl (by rw [x2_of (d := .int w) (e := .int 1) rfl rfl, dSub_e]), dIx_l]
      by_cases h0 : w = 0
      · subst h0
        rw [if_pos rfl]
        exact last_getD an hne
      · rw [if_neg h0, show (w : Int) - 1 = ((w - 1 : Nat) : Int) by omega]
        have hw1 : w - 1 < an.length := by omega
        refine atI_of ?_
        rw [List.getElem?_map, List.getElem?_eq_getElem hw1, List.getD_eq_getElem?_getD, List.getElem?_eq_getElem hw1]
        rfl
  -- the spoilt ones appended
  obtain ⟨δ1, l1, a, rfl⟩ := forL_inv (tg := gSet 5) (b := sDrop (xApp 3 (mOf (x2 dPlus (x2 dPlus (xL oTup (xCons (xSlL (xV 1) oNo (oInt1 (xV 4))) xNil)) (xL mkTup (xCons (xV 5) xNil))) (xL oTup (xCons (xSlL (xV 1) (oInt1 (x2 dAdd (xV 4) (xK (.int 1)))) oNo) xNil))))))
    (fun k δ => ∃ a, δ = [scr ns, strD an, B, .list (A0 ++ ((spL an w).take k).map (midD an w)), .int w, a, .none]) (spL an w) 0 [scr ns, strD an, B, .list A0, .int w, .none, .none] ⟨_, by rw [List.take_zero, List.map_nil, List.append_nil]⟩ fun j d δ hd ⟨a, e⟩ => by
    subst e
    rw [Nat.zero_add]
    refine ⟨[scr ns, strD an, B, .list (A0 ++ ((spL an w).take j).map (midD an w)), .int w, d, .none], [scr ns, strD an, B, .list (A0 ++ ((spL an w).take j).map (midD an w) ++ [midD an w d]), .int w, d, .none], rfl, ?_, d, ?_⟩
    · have m := mid_of (δ := [scr ns, strD an, B, .list (A0 ++ ((spL an w).take j).map (midD an w)), .int w, d, .none]) (i := 1) (j := 4) (f := xV 5) (g := x2 dAdd (xV 4) (xK (.int 1))) (ds := an.map PyData.str) (v := w) (w := w + 1) (s := d) rfl rfl rfl (by
        rw [x2_of (d := .int w) (e := .int 1) rfl rfl, dAdd_e]; congr 2) (by rw [List.length_map]; omega)
      refine drop_e (app_e m rfl ?_)
      rw [List.length_append, List.length_map, List.length_take, hA0]
      have : (spL an w).length = 9 := rfl
      simp only [List.length_cons, List.length_nil]
      omega
    · have et : (spL an w).take (j + 1) = (spL an w).take j ++ [d] := by rw [List.take_succ, hd]; rfl
      rw [et, List.map_append, List.append_assoc]
      rfl
  rw [Nat.zero_add, List.take_length] at l1
  obtain ⟨A1, hA1⟩ : ∃ l : List D, l = A0 ++ (spL an w).map (midD an w) := ⟨_, rfl⟩
  rw [← hA1] at l1
  have hxs : ∀ x ∈ xs, x ∈ an := fun x hx => by rw [exs]; exact List.mem_append_left _ hx
  have hxl : xs.length = N := by rw [exs, List.length_append] at hlen; simpa using hlen
  have hz : plainD (.str "z") = true := by decide +kernel
  have hA : ∀ d ∈ A1, plain2 d = true ∧ (∀ ds, d = .tuple ds → ds.length ≤ sizeLine) ∧ nmsD (N + 1) d = false := fun d hd => by
    rw [hA1] at hd
    rcases List.mem_append.mp hd with hd | hd
    · rw [hA0] at hd
      simp only [List.mem_cons, List.not_mem_nil, or_false] at hd
      rcases hd with rfl | rfl | rfl | rfl | rfl | rfl
      · refine ⟨h.pl hxs, fun ds e => ?_, ?_⟩
        · cases e; rw [List.length_map]; omega
        · show (_ && decide ((xs.map PyData.str).length = N + 1)) = false
          rw [List.length_map, hxl, decide_eq_false (by omega)]
          simp
      · refine ⟨?_, fun ds e => ?_, ?_⟩
        · show (an.map PyData.str ++ [PyData.str "z"]).all plainD = true
          rw [List.all_append, h.pl (fun x hx => hx), List.all_cons, hz]; rfl
        · cases e; rw [List.length_append, List.length_map]; simp only [List.length_singleton]; omega
        · show (_ && decide ((an.map PyData.str ++ [PyData.str "z"]).length = N + 1)) = false
          rw [List.length_append, List.length_map, hlen, decide_eq_false (by simp)]
          simp
      · exact ⟨rfl, (fun _ e => nomatch e), rfl⟩
      · exact ⟨rfl, (fun _ e => nomatch e), rfl⟩
      · exact ⟨rfl, (fun _ e => nomatch e), rfl⟩
      · refine ⟨rfl, fun ds e => by cases e; exact Nat.zero_le _, ?_⟩
        show (_ && decide (0 = N + 1)) = false
        simp
    · obtain ⟨s, hs, rfl⟩ := List.mem_map.mp hd
      obtain ⟨m1, m2⟩ := mid_no h hw' hs
      refine ⟨m1, fun ds e => ?_, m2⟩
      unfold midD at e
      cases e
      rw [List.length_append, List.length_cons, List.length_take, List.length_drop, List.length_map]
      omega
  obtain ⟨δ2, l2, b, rfl⟩ := forL_inv (tg := gSet 6) (b := sIf (bNot (bE (xCall f__law_refused (xCons (xK (.int 3)) (xCons (xV 6) (xCons (xV 2) (xCons (xK (.str "names")) xNil))))))) (sRet (xK (.bool false))) sNil)
    (fun _ δ => ∃ b, δ = [scr ns, strD an, B, .list A1, .int w, a, b]) A1 0 [scr ns, strD an, B, .list A1, .int w, a, .none] ⟨_, rfl⟩ fun j d δ hd ⟨b, e⟩ => by
    subst e
    obtain ⟨n1, n2, n3⟩ := hA d (List.mem_of_getElem? hd)
    refine ⟨[scr ns, strD an, B, .list A1, .int w, a, d], _, rfl, ?_, d, rfl⟩
    have q0 : bNot (bE (xCall f__law_refused (xCons (xK (.int 3)) (xCons (xV 6) (xCons (xV 2) (xCons (xK (.str "names")) xNil)))))) [scr ns, strD an, B, .list A1, .int w, a, d] = some false := bN_of (k := true) (bE_of (by
      rw [xCall_e]
      show ((f__law_refused [.int 3, d, B, .str "names"]).map _) = _
      rw [hB, f_ref3 n1 n2 n3]; rfl))
    rw [if_f q0]
    rfl
  rw [← hB]
  refine fn_rt (δ' := [scr ns, strD an, B, .list A1, .int w, a, b]) ?_ rfl
  show g__law_names [scr ns, strD an, B, .none, .none, .none, .none] = _
  unfold g__law_names
  rw [set_of e0]
  show sSeq _ _ [scr ns, strD an, B, .list A0, .none, .none, .none] = _
  rw [set_of ew]
  show sSeq _ _ [scr ns, strD an, B, .list A0, .int w, .none, .none] = _
  refine (for_nx es l1).trans ?_
  exact (for_nx (by rfl) l2).trans (ret_of rfl)
end LawK36

set_option linter.all false
set_option maxRecDepth 10000
namespace LawK36
open PySem Pv
/-! k36: heaps -/
section
variable {ps : List (Str × Str)}
theorem cl_gn (h : Sl ps) {x : Str} (hx : x ∈ called ps) : GN x := by
  obtain ⟨p, hp, e | e⟩ := called_mem.mp hx
  · rw [e]; exact (h.all p hp).1
  · rw [e]; exact (h.all p hp).2
theorem cl_1 {p : Str × Str} (hp : p ∈ ps) : p.1 ∈ called ps := called_mem.mpr ⟨p, hp, .inl rfl⟩
theorem cl_2 {p : Str × Str} (hp : p ∈ ps) : p.2 ∈ called ps := called_mem.mpr ⟨p, hp, .inr rfl⟩
def ixP (cl : List Str) (p : Str × Str) : Nat × Nat := (cl.idxOf p.1, cl.idxOf p.2)
theorem ix_lt {cl : List Str} {x : Str} (h : x ∈ cl) : cl.idxOf x < cl.length := List.idxOf_lt_length_of_mem h
theorem ix_get {cl : List Str} {x : Str} (h : x ∈ cl) : cl.getD (cl.idxOf x) emS = x := by
  rw [List.getD_eq_getElem?_getD, List.getElem?_eq_getElem (ix_lt h)]
  simp
theorem hp_eq : hpD ps = heapD (called ps).length ((ps.map (ixP (called ps))).map ixD) := by
  unfold hpD heapD
  rw [List.map_map]
  rfl
theorem lv_ok : ∀ l ∈ ps.map (ixP (called ps)), l.1 < (called ps).length ∧ l.2 < (called ps).length := fun l hl => by
  obtain ⟨p, hp, rfl⟩ := List.mem_map.mp hl
  exact ⟨ix_lt (cl_1 hp), ix_lt (cl_2 hp)⟩
theorem ok_pairs {qs : List (Str × Str)} (hl : qs.length ≤ 1000) (h : ∀ p ∈ qs, PyData.strOk p.1 = true ∧ PyData.strOk p.2 = true) : okS 6 (psT qs) = true := by
  have sz := size_le
  rw [okS_t, List.length_map, decide_eq_true (by omega), Bool.true_and, List.all_eq_true]
  intro d hd
  obtain ⟨p, hp, rfl⟩ := List.mem_map.mp hd
  exact ok_pair 3 (h p hp).1 (h p hp).2
theorem ok_due (h : Sl ps) : okS 6 (.tuple [.tuple ((called ps).map .str), hpD ps]) = true := by
  have sz := size_le
  have l1 := called_len ps
  have l2 := h.len
  have a : okS 5 (.tuple ((called ps).map .str)) = true := by
    rw [okS_t, List.length_map, decide_eq_true (by omega), Bool.true_and, List.all_eq_true]
    intro d hd
    obtain ⟨x, hx, rfl⟩ := List.mem_map.mp hd
    exact (cl_gn h hx).ok
  have c : okS 4 (.tuple (ps.map (lfD (called ps)))) = true := by
    rw [okS_t, List.length_map, decide_eq_true (by omega), Bool.true_and, List.all_eq_true]
    intro d hd
    obtain ⟨p, hp, rfl⟩ := List.mem_map.mp hd
    show (decide (2 ≤ sizeLine) && (true && (true && true))) = true
    rw [decide_eq_true (by omega)]
    rfl
  have b : okS 5 (hpD ps) = true := by
    show (decide (2 ≤ sizeLine) && (true && (okS 4 (.tuple (ps.map (lfD (called ps)))) && true))) = true
    rw [decide_eq_true (by omega), c]
    rfl
  show (decide (2 ≤ sizeLine) && (okS 5 (.tuple ((called ps).map .str)) && (okS 5 (hpD ps) && true))) = true
  rw [decide_eq_true (by omega), a, b]
  rfl
/-! ### the other names -/
abbrev xS : Str := Str.ofString "x"
def anX (cl : List Str) : List Str := cl.reverse.map fun c => xS ++ c
def anS (cl : List Str) : List Str := anX cl ++ [Str.ofString "y"]
theorem tl_x (c : Str) : TL.tl (xS ++ c) = 120 :: TL.tl c := by rw [TL.tl_append, show xS = mkS [120] from by decide +kernel]; rfl
theorem gn_y : GN (Str.ofString "y") := gn_dec (by decide +kernel)
theorem x_ok {c : Str} (h : GN c) : isN (xS ++ c) = true ∧ PyData.strOk (xS ++ c) = true ∧ (xS ++ c).length ≤ 40 := by
  refine ⟨isN_of (by rw [tl_x]; simp) ?_, ok_iff.mpr fun d hd => ?_, ?_⟩
  · rw [tl_x]
    intro z
    rcases List.mem_cons.mp z with z | z
    · cases z
    · exact (isN_iff h.nm).2 z
  · rw [tl_x] at hd
    rcases List.mem_cons.mp hd with z | z
    · omega
    · exact ok_iff.mp h.ok d z
  · rw [slen, tl_x, List.length_cons, ← slen]
    have := h.len
    omega
theorem anX_len (cl : List Str) : (anX cl).length = cl.length := by simp [anX]
theorem anX_nd {cl : List Str} (h : cl.Nodup) : (anX cl).Nodup := by
  have h2 : cl.reverse.Nodup := List.pairwise_reverse.mpr (List.Pairwise.imp (fun hab e => hab e.symm) h)
  refine List.Pairwise.map _ (fun a b hab e => hab ?_) h2
  have := congrArg TL.tl e
  rw [tl_x, tl_x] at this
  exact TL.ext_tl (List.cons.inj this).2
theorem an_an {cl : List Str} (h : cl.Nodup) (hg : ∀ x ∈ cl, GN x) (h1 : 1 ≤ cl.length) (h2 : cl.length ≤ 100) : An (anS cl) cl.length := by
  have hm : ∀ x ∈ anX cl, ∃ c ∈ cl, x = xS ++ c := fun x hx => by
    obtain ⟨c, hc, rfl⟩ := List.mem_map.mp hx
    exact ⟨c, List.mem_reverse.mp hc, rfl⟩
  refine ⟨by rw [anS, List.length_append, anX_len]; rfl, h1, h2, ?_, fun x hx => ?_⟩
  · refine List.nodup_append.mpr ⟨anX_nd h, by simp, fun a ha b hb e => ?_⟩
    obtain ⟨c, _, rfl⟩ := hm a ha
    rw [List.mem_singleton] at hb
    rw [hb] at e
    have := congrArg TL.tl e
    rw [tl_x, show Str.ofString "y" = mkS [121] from by decide +kernel, mkS_tl] at this
    have := (List.cons.inj this).1
    omega
  · rcases List.mem_append.mp hx with hx | hx
    · obtain ⟨c, hc, rfl⟩ := hm x hx
      exact x_ok (hg c hc)
    · rw [List.mem_singleton.mp hx]
      exact ⟨gn_y.nm, gn_y.ok, by have := gn_y.len; omega⟩
theorem anX_range (cl : List Str) : (List.range cl.length).map (fun k => xS ++ cl.getD (cl.length - 1 - k) emS) = anX cl := by
  refine List.ext_getElem (by rw [List.length_map, List.length_range, anX_len]) fun i h1 h2 => ?_
  rw [List.length_map, List.length_range] at h1
  unfold anX at h2 ⊢
  rw [List.getElem_map, List.getElem_range, List.getElem_map, List.getElem_reverse, List.getD_eq_getElem?_getD, List.getElem?_eq_getElem (by omega)]
  rfl
theorem anS_get {cl : List Str} {i : Nat} (h : i < cl.length) : (anS cl).getD i emS = (anX cl).getD i emS := by
  rw [List.getD_eq_getElem?_getD, List.getD_eq_getElem?_getD, anS, List.getElem?_append_left (by rw [anX_len]; exact h)]
/-- the slips with the other names -/
def trn (cl : List Str) (p : Str × Str) : Str × Str := ((anS cl).getD (cl.idxOf p.1) emS, (anS cl).getD (cl.idxOf p.2) emS)
end
theorem getD_mem {l : List Str} {i : Nat} (h : i < l.length) : l.getD i emS ∈ l := by
  rw [List.getD_eq_getElem?_getD, List.getElem?_eq_getElem h]
  exact List.getElem_mem h
theorem f_heaps (ns : List Int) {ps : List (Str × Str)} (h : Sl ps) : f__law_heaps [scr ns, psL ps] = some (.bool true, [scr ns, psL ps]) := by
  have sz := size_le
  have hlen := h.len
  have hcl := called_len ps
  have hnd := called_nd ps
  have hgn : ∀ x ∈ called ps, GN x := fun x hx => cl_gn h hx
  obtain ⟨cl, hc⟩ : ∃ cl, cl = called ps := ⟨_, rfl⟩
  have h1 : 1 ≤ cl.length := by
    obtain ⟨p, r, e⟩ := List.exists_cons_of_ne_nil h.pos
    have : p.1 ∈ cl := by rw [hc]; exact cl_1 (by rw [e]; exact List.mem_cons_self)
    exact List.length_pos_of_mem this
  have okp : ∀ p ∈ ps, PyData.strOk p.1 = true ∧ PyData.strOk p.2 = true := fun p hp => ⟨(h.all p hp).1.ok, (h.all p hp).2.ok⟩
  obtain ⟨P, hP⟩ : ∃ P, P = hpD ps := ⟨_, rfl⟩
  obtain ⟨Du, hDu⟩ : ∃ Du, Du = PyData.tuple [.tuple (cl.map .str), P] := ⟨_, rfl⟩
  have okDu : okS 6 Du = true := by rw [hDu, hP, hc]; exact ok_due h
  have i1 : ∀ p ∈ ps, p.1 ∈ cl := fun p hp => by rw [hc]; exact cl_1 hp
  have i2 : ∀ p ∈ ps, p.2 ∈ cl := fun p hp => by rw [hc]; exact cl_2 hp
  -- the heap
  have e3 : xL mkTup (xCons (xL oLen (xCons (xV 2) xNil)) (xCons (xL oTup (xCons (xCmp (lSeq (xV 1)) (gSet 4) bYes (xL mkTup (xCons (x2 dIndex (xV 2) (x2 dIx (xV 4) (xK (.int 0)))) (xCons (x2 dIndex (xV 2) (x2 dIx (xV 4) (xK (.int 1)))) xNil)))) xNil)) xNil)) [scr ns, psL ps, strD cl, .none, .none, .none, .none, .none, .none, .none] = some P := by
    have k : xCmp (lSeq (xV 1)) (gSet 4) bYes (xL mkTup (xCons (x2 dIndex (xV 2) (x2 dIx (xV 4) (xK (.int 0)))) (xCons (x2 dIndex (xV 2) (x2 dIx (xV 4) (xK (.int 1)))) xNil))) [scr ns, psL ps, strD cl, .none, .none, .none, .none, .none, .none, .none] = some (.list (ps.map (lfD cl))) :=
      xCmp_m pairD (lfD cl) (fun p => [scr ns, psL ps, strD cl, .none, pairD p, .none, .none, .none, .none, .none]) ps rfl (by omega) fun p hp => ⟨rfl, tp2
        (by rw [x2_of (d := strD cl) (e := .str p.1) rfl (by rw [x2_of (d := pairD p) (e := .int 0) rfl rfl]; exact at0 _ _)]; exact dIndex_strs (i1 p hp))
        (by rw [x2_of (d := strD cl) (e := .str p.2) rfl (by rw [x2_of (d := pairD p) (e := .int 1) rfl rfl]; exact at1 _ _ _)]; exact dIndex_strs (i2 p hp))⟩
    have el : xL oLen (xCons (xV 2) xNil) [scr ns, psL ps, strD cl, .none, .none, .none, .none, .none, .none, .none] = some (.int cl.length) := by
      rw [xL1 (d := strD cl) rfl]
      show some (PyData.int ((cl.map PyData.str).length : Nat)) = _
      rw [List.length_map]
    rw [tp2 el (tpl k), hP, hc]
    rfl
  have e5 : ∀ a4, xL mkTup (xCons (xL oTup (xCons (xV 2) xNil)) (xCons (xV 3) xNil)) [scr ns, psL ps, strD cl, P, a4, .none, .none, .none, .none, .none] = some Du := fun a4 => by rw [hDu]; exact tp2 (tpl rfl) rfl
  have hh : f_heap_of [psT ps] = some (Du, [psT ps]) := by rw [hDu, hP, hc]; exact f_heap h
  have c6 : bOr (bNot (bE (xCall (f__law_same 6) (xCons (xCall f_heap_of (xCons (xL oTup (xCons (xV 1) xNil)) xNil)) (xCons (xV 5) xNil))))) (bNot (bE (xCall (f__law_same 6) (xCons (xCall f_heap_of (xRo [0] (xCons (xL oTup (xCons (xV 1) xNil)) xNil))) (xCons (xV 5) xNil))))) [scr ns, psL ps, strD cl, P, .none, Du, .none, .none, .none, .none] = some false :=
    or_f (smN (call1 (tpl rfl) hh) rfl okDu) (smN (call1K (tpl rfl) hh) rfl okDu)
  have c7 : bOr (bE (x2 dGt (xL oLen (xCons (xV 1) xNil)) (xK (.int 40)))) (bE (x2 dGt (xL oLen (xCons (xV 2) xNil)) (xK (.int 9)))) [scr ns, psL ps, strD cl, P, .none, Du, .none, .none, .none, .none] = some (decide (40 < ps.length) || decide (9 < cl.length)) := by
    refine or_k (bE_of ?_) fun _ => bE_of ?_
    · rw [x2_of (d := .int ps.length) (e := .int 40) (by rw [xL1 (d := psL ps) rfl]; show some (PyData.int ((ps.map pairD).length : Nat)) = _; rw [List.length_map]) rfl, dGt_e]
      congr 2
      simp
      omega
    · rw [x2_of (d := .int cl.length) (e := .int 9) (by rw [xL1 (d := strD cl) rfl]; show some (PyData.int ((cl.map PyData.str).length : Nat)) = _; rw [List.length_map]) rfl, dGt_e]
      congr 2
      simp
      omega
  have start : ∀ R, sSeq (sIf (bOr (bE (x2 dGt (xL oLen (xCons (xV 1) xNil)) (xK (.int 40)))) (bE (x2 dGt (xL oLen (xCons (xV 2) xNil)) (xK (.int 9))))) (sRet (xK (.bool true))) sNil) R [scr ns, psL ps, strD cl, P, .none, Du, .none, .none, .none, .none] = R [scr ns, psL ps, strD cl, P, .none, Du, .none, .none, .none, .none] ∨
      (decide (40 < ps.length) || decide (9 < cl.length)) = true := fun R => by
    cases hq : (decide (40 < ps.length) || decide (9 < cl.length)) with
    | true => exact .inr rfl
    | false => rw [hq] at c7; exact .inl (pass_if c7)
  have hcall : sSet 2 (xCall f__law_called (xCons (xV 1) xNil)) [scr ns, psL ps, .none, .none, .none, .none, .none, .none, .none, .none] = some (.nx [scr ns, psL ps, strD cl, .none, .none, .none, .none, .none, .none, .none]) := by
    rw [sSet_e, call1 (a := psL ps) rfl (f_called (ps := ps) (by omega)), ← hc]
    rfl
  cases hq : (decide (40 < ps.length) || decide (9 < cl.length)) with
  | true =>
    rw [hq] at c7
    refine fn_rt (δ' := [scr ns, psL ps, strD cl, P, .none, Du, .none, .none, .none, .none]) ?_ rfl
    show g__law_heaps [scr ns, psL ps, .none, .none, .none, .none, .none, .none, .none, .none] = _
    unfold g__law_heaps
    rw [sSeq_nx hcall, set_of e3]
    show sSeq _ _ [scr ns, psL ps, strD cl, P, .none, .none, .none, .none, .none, .none] = _
    rw [set_of (e5 .none)]
    show sSeq _ _ [scr ns, psL ps, strD cl, P, .none, Du, .none, .none, .none, .none] = _
    rw [pass_if c6]
    exact ret_if c7 rfl
  | false =>
    rw [hq] at c7
    have hN : cl.length ≤ 9 := by simp at hq; omega
    have hgn' : ∀ x ∈ cl, GN x := fun x hx => hgn x (by rw [← hc]; exact hx)
    have hnd' : cl.Nodup := by rw [hc]; exact hnd
    have hAn := an_an hnd' hgn' h1 (by omega)
    obtain ⟨an, han⟩ : ∃ an, an = anS cl := ⟨_, rfl⟩
    rw [← han] at hAn
    obtain ⟨lv, hlv⟩ : ∃ lv, lv = ps.map (ixP cl) := ⟨_, rfl⟩
    have hlvl : lv.length = ps.length := by rw [hlv, List.length_map]
    have eP : P = heapD cl.length (lv.map ixD) := by rw [hP, hlv, hc]; exact hp_eq
    have lvk : ∀ l ∈ lv, l.1 < cl.length ∧ l.2 < cl.length := by rw [hlv, hc]; exact lv_ok
    -- slips_of by the first names
    have s1 : f_slips_of [.tuple (cl.map .str), P] = some (psT ps, [.tuple (cl.map .str), P]) := by
      rw [eP, f_slof hnd' (fun x hx => ⟨(hgn' x hx).nm, by have := (hgn' x hx).len; omega⟩) lvk (by omega) (by omega)]
      have : (lv.map fun l => pairD (cl.getD l.1 emS, cl.getD l.2 emS)) = ps.map pairD := by
        rw [hlv, List.map_map]
        refine List.map_congr_left fun p hp => ?_
        show pairD (cl.getD (cl.idxOf p.1) emS, cl.getD (cl.idxOf p.2) emS) = _
        rw [ix_get (i1 p hp), ix_get (i2 p hp)]
      rw [this]
    -- the other names
    have e6 : x2 dCatL (xCmp (lOf rng1 (xCons (xL oLen (xCons (xV 2) xNil)) xNil)) (gSet 7) bYes (x2 dAdd (xK (.str "x")) (x2 dIx (xV 2) (x2 dSub (x2 dSub (xL oLen (xCons (xV 2) xNil)) (xK (.int 1))) (xV 7))))) (xL mkLst (xCons (xK (.str "y")) xNil)) [scr ns, psL ps, strD cl, P, .none, Du, .none, .none, .none, .none] = some (strD an) := by
      have el : ∀ a7, xL oLen (xCons (xV 2) xNil) [scr ns, psL ps, strD cl, P, .none, Du, .none, a7, .none, .none] = some (.int cl.length) := fun a7 => by
        rw [xL1 (d := strD cl) rfl]
        show some (PyData.int ((cl.map PyData.str).length : Nat)) = _
        rw [List.length_map]
      have k : xCmp (lOf rng1 (xCons (xL oLen (xCons (xV 2) xNil)) xNil)) (gSet 7) bYes (x2 dAdd (xK (.str "x")) (x2 dIx (xV 2) (x2 dSub (x2 dSub (xL oLen (xCons (xV 2) xNil)) (xK (.int 1))) (xV 7)))) [scr ns, psL ps, strD cl, P, .none, Du, .none, .none, .none, .none] = some (.list ((List.range cl.length).map fun k => .str (xS ++ cl.getD (cl.length - 1 - k) emS))) :=
        xCmp_m (fun k : Nat => PyData.int ((k : Nat) : Int)) (fun k => .str (xS ++ cl.getD (cl.length - 1 - k) emS)) (fun k => [scr ns, psL ps, strD cl, P, .none, Du, .none, .int k, .none, .none]) (List.range cl.length) (by rw [rng_of (n := cl.length) (el .none) (by omega), rng_map]) (by rw [List.length_range]; omega) fun k hk => ⟨rfl, by
          have hk := List.mem_range.mp hk
          have hlt : cl.length - 1 - k < cl.length := by omega
          have g := hgn' _ (getD_mem hlt)
          have gl := g.len
          rw [x2_of (d := .str xS) (e := .str (cl.getD (cl.length - 1 - k) emS)) rfl (by
            rw [x2_of (d := strD cl) (e := .int ((cl.length - 1 - k : Nat) : Int)) rfl (by
              rw [x2_of (d := .int ((cl.length : Int) - 1)) (e := .int k) (by rw [x2_of (d := .int cl.length) (e := .int 1) (el (.int k)) rfl, dSub_e]) rfl, dSub_e]
              congr 2
              omega), dIx_l]
            refine atI_of ?_
            rw [List.getElem?_map, List.getElem?_eq_getElem hlt, List.getD_eq_getElem?_getD, List.getElem?_eq_getElem hlt]
            rfl), dAdd_str (by rw [show xS.length = 1 from by decide +kernel]; omega)]⟩
      rw [x2_of k (ls_of (ds := [.str "y"]) (lst_cons rfl lst_nil) (by simp)), cat_e _ _ (by rw [List.length_map, List.length_range]; simp only [List.length_singleton]; omega), han]
      unfold anS
      rw [← anX_range]
      show _ = some (PyData.list (List.map PyData.str (_ ++ _)))
      rw [List.map_append, List.map_map]
      rfl
    have e8 : xL mkTup (xCons (x2 dAdd (x2 dIx (xV 3) (xK (.int 0))) (xK (.int 1))) (xCons (x2 dIx (xV 3) (xK (.int 1))) xNil)) [scr ns, psL ps, strD cl, P, .none, Du, strD an, .none, .none, .none] = some (heapD (cl.length + 1) (lv.map ixD)) := by
      rw [eP]
      refine tp2 ?_ (by rw [x2_of (d := heapD cl.length (lv.map ixD)) (e := .int 1) rfl rfl]; exact at1 _ _ _)
      rw [x2_of (d := .int cl.length) (e := .int 1) (by rw [x2_of (d := heapD cl.length (lv.map ixD)) (e := .int 0) rfl rfl]; exact at0 _ _) rfl, dAdd_e]
      congr 2
    obtain ⟨W, hW⟩ : ∃ W, W = heapD (cl.length + 1) (lv.map ixD) := ⟨_, rfl⟩
    rw [← hW] at e8
    have agl : an.length = cl.length + 1 := hAn.len
    have eg : ∀ n : Nat, n < cl.length → dIx (strD an) (.int n) = some (.str (an.getD n emS)) := fun n hn => by
      rw [dIx_l]
      refine atI_of ?_
      rw [List.getElem?_map, List.getElem?_eq_getElem (by omega), List.getD_eq_getElem?_getD, List.getElem?_eq_getElem (by omega)]
      rfl
    obtain ⟨tr, htr⟩ : ∃ tr, tr = lv.map fun l => (an.getD l.1 emS, an.getD l.2 emS) := ⟨_, rfl⟩
    have okT : okS 6 (psT tr) = true := ok_pairs (by rw [htr, List.length_map]; omega) fun p hp => by
      rw [htr] at hp
      obtain ⟨l, hl, rfl⟩ := List.mem_map.mp hp
      obtain ⟨a, b⟩ := lvk l hl
      exact ⟨(hAn.all _ (getD_mem (by omega))).2.1, (hAn.all _ (getD_mem (by omega))).2.1⟩
    have e9 : xL oTup (xCons (xCmp (lSeq (x2 dIx (xV 3) (xK (.int 1)))) (gSet 4) bYes (xL mkTup (xCons (x2 dIx (xV 6) (x2 dIx (xV 4) (xK (.int 0)))) (xCons (x2 dIx (xV 6) (x2 dIx (xV 4) (xK (.int 1)))) xNil)))) xNil) [scr ns, psL ps, strD cl, P, .none, Du, strD an, .none, W, .none] = some (psT tr) := by
      refine tpl ?_
      have := xCmp_m (src := lSeq (x2 dIx (xV 3) (xK (.int 1)))) (tg := gSet 4) (f := xL mkTup (xCons (x2 dIx (xV 6) (x2 dIx (xV 4) (xK (.int 0)))) (xCons (x2 dIx (xV 6) (x2 dIx (xV 4) (xK (.int 1)))) xNil))) (δ := [scr ns, psL ps, strD cl, P, .none, Du, strD an, .none, W, .none]) ixD (fun l => pairD (an.getD l.1 emS, an.getD l.2 emS)) (fun l => [scr ns, psL ps, strD cl, P, ixD l, Du, strD an, .none, W, .none]) lv
        (by rw [lSeq_e, x2_of (d := P) (e := .int 1) rfl rfl, eP]; show ((L2.atI [PyData.int cl.length, .tuple (lv.map ixD)] 1).bind asSeq) = _; rw [at1]; rfl) (by omega) fun l hl => ⟨rfl, by
          obtain ⟨a, b⟩ := lvk l hl
          exact tp2 (by rw [x2_of (d := strD an) (e := .int l.1) rfl (by rw [x2_of (d := ixD l) (e := .int 0) rfl rfl]; exact at0 _ _), eg _ a]) (by rw [x2_of (d := strD an) (e := .int l.2) rfl (by rw [x2_of (d := ixD l) (e := .int 1) rfl rfl]; exact at1 _ _ _), eg _ b])⟩
      rw [this, htr, List.map_map]
      rfl
    have anok : ∀ x ∈ an, isN x = true ∧ x.length ≤ sizeLine := fun x hx => ⟨(hAn.all x hx).1, by have := (hAn.all x hx).2.2; omega⟩
    have hX : ∀ x ∈ anX cl, x ∈ an := fun x hx => by rw [han]; exact List.mem_append_left _ hx
    have s2 : f_slips_of [.tuple ((anX cl).map .str), P] = some (psT tr, [.tuple ((anX cl).map .str), P]) := by
      have := f_slof (ws := anX cl) (lv := lv) (anX_nd hnd') (fun x hx => anok x (hX x hx)) (by rw [anX_len]; exact lvk) (by rw [anX_len]; omega) (by omega)
      rw [anX_len] at this
      rw [eP, this, htr, show psT (lv.map fun l => (an.getD l.1 emS, an.getD l.2 emS)) = .tuple (lv.map fun l => pairD (an.getD l.1 emS, an.getD l.2 emS)) by show PyData.tuple (List.map _ (List.map _ _)) = _; rw [List.map_map]; rfl]
      have : (lv.map fun l => pairD ((anX cl).getD l.1 emS, (anX cl).getD l.2 emS)) = lv.map fun l => pairD (an.getD l.1 emS, an.getD l.2 emS) := List.map_congr_left fun l hl => by
        obtain ⟨a, b⟩ := lvk l hl
        rw [han, anS_get a, anS_get b]
      rw [this]
    have s3 : f_slips_of [.tuple (an.map .str), W] = some (psT tr, [.tuple (an.map .str), W]) := by
      have := f_slof (ws := an) (lv := lv) hAn.nd anok (fun l hl => by have := lvk l hl; omega) (by omega) (by omega)
      rw [agl] at this
      rw [hW, this, htr, show psT (lv.map fun l => (an.getD l.1 emS, an.getD l.2 emS)) = .tuple (lv.map fun l => pairD (an.getD l.1 emS, an.getD l.2 emS)) by show PyData.tuple (List.map _ (List.map _ _)) = _; rw [List.map_map]; rfl]
    have s4 : f_slips_of [.tuple (an.map .str), heapD (cl.length + 1) []] = some (.tuple [], [.tuple (an.map .str), heapD (cl.length + 1) []]) := by
      have := f_slof (ws := an) (lv := []) hAn.nd anok (fun l hl => nomatch hl) (by omega) (by simp)
      rw [agl] at this
      exact this
    have eX : xL oTup (xCons (xSlL (xV 6) oNo (oInt1 (x1 dNeg (xK (.int 1))))) xNil) [scr ns, psL ps, strD cl, P, .none, Du, strD an, .none, W, psT tr] = some (.tuple ((anX cl).map .str)) := by
      refine tpl ?_
      show some (PyData.list (cutD (an.map .str) none (some (-1)))) = _
      rw [han, anS, List.map_append]
      exact congrArg some (congrArg PyData.list (cut_m1 _ _))
    have t7 : bNot (bE (xCall (f__law_same 6) (xCons (xCall f_slips_of (xCons (xL oTup (xCons (xV 2) xNil)) (xCons (xV 3) xNil))) (xCons (xL oTup (xCons (xV 1) xNil)) xNil)))) [scr ns, psL ps, strD cl, P, .none, Du, .none, .none, .none, .none] = some false :=
      smN (call2 (tpl rfl) rfl s1) (tpl rfl) (ok_pairs (by omega) okp)
    have t8 : bNot (bE (xCall (f__law_same 6) (xCons (xCall f_slips_of (xCons (xL oTup (xCons (xSlL (xV 6) oNo (oInt1 (x1 dNeg (xK (.int 1))))) xNil)) (xCons (xV 3) xNil))) (xCons (xV 9) xNil)))) [scr ns, psL ps, strD cl, P, .none, Du, strD an, .none, W, psT tr] = some false :=
      smN (call2 eX rfl s2) rfl okT
    have t9 : bNot (bE (xCall (f__law_same 6) (xCons (xCall f_slips_of (xRo [1, 0] (xCons (xV 8) (xCons (xL oTup (xCons (xV 6) xNil)) xNil)))) (xCons (xV 9) xNil)))) [scr ns, psL ps, strD cl, P, .none, Du, strD an, .none, W, psT tr] = some false :=
      smN (call2K rfl (tpl rfl) s3) rfl okT
    have t10 : bNot (bE (xCall (f__law_same 6) (xCons (xCall f_slips_of (xCons (xL oTup (xCons (xV 6) xNil)) (xCons (xL mkTup (xCons (x2 dAdd (x2 dIx (xV 3) (xK (.int 0))) (xK (.int 1))) (xCons (xL mkTup xNil) xNil))) xNil))) (xCons (xL mkTup xNil) xNil)))) [scr ns, psL ps, strD cl, P, .none, Du, strD an, .none, W, psT tr] = some false := by
      refine smN (d := .tuple []) (call2 (tpl rfl) (tp2 (e := .tuple []) (d := .int ((cl.length + 1 : Nat) : Int)) ?_ (tp_of lst_nil (by simp))) s4) (tp_of lst_nil (by simp)) rfl
      rw [x2_of (d := .int cl.length) (e := .int 1) (by rw [x2_of (d := P) (e := .int 0) rfl rfl, eP]; exact at0 _ _) rfl, dAdd_e]
      congr 2
    refine fn_rt (δ' := [scr ns, psL ps, strD cl, P, .none, Du, strD an, .none, W, psT tr]) ?_ rfl
    show g__law_heaps [scr ns, psL ps, .none, .none, .none, .none, .none, .none, .none, .none] = _
    unfold g__law_heaps
    rw [sSeq_nx hcall, set_of e3]
    show sSeq _ _ [scr ns, psL ps, strD cl, P, .none, .none, .none, .none, .none, .none] = _
    rw [set_of (e5 .none)]
    show sSeq _ _ [scr ns, psL ps, strD cl, P, .none, Du, .none, .none, .none, .none] = _
    rw [pass_if c6, pass_if c7, pass_if t7, set_of e6]
    show sSeq _ _ [scr ns, psL ps, strD cl, P, .none, Du, strD an, .none, .none, .none] = _
    rw [set_of e8]
    show sSeq _ _ [scr ns, psL ps, strD cl, P, .none, Du, strD an, .none, W, .none] = _
    rw [set_of e9]
    show sSeq _ _ [scr ns, psL ps, strD cl, P, .none, Du, strD an, .none, W, psT tr] = _
    rw [pass_if t8, pass_if t9, pass_if t10]
    exact ret_of (call3 (a := scr ns) (b := strD an) (c := W) rfl rfl rfl (by rw [hW]; exact f_names_e ns hAn))
end LawK36

set_option linter.all false
set_option maxRecDepth 10000
namespace LawK36
open PySem Pv
/-! k36: rows; the law -/
abbrev menuL : List Str := ["a b", " b", "a ", " ", "", "a", "a b c", "a  b", ">~ 0", " a b", "a b ", "  ", "b a", "~ ~"]
abbrev rightL : List Str := ["a b", "b a", "~ ~", ">~ 0"]
theorem ln_dec {x : Str} (h : (PyData.strOk x && decide (x.length ≤ 1000)) = true) : Ln x := by
  rw [Bool.and_eq_true] at h
  exact ⟨h.1, by have := of_decide_eq_true h.2; have := size_le; omega⟩
theorem menu_ln {x : Str} (h : x ∈ menuL) : Ln x := ln_dec (List.all_eq_true.mp (by decide +kernel : (menuL.all fun x => PyData.strOk x && decide (x.length ≤ 1000)) = true) x h)
theorem right_ln {x : Str} (h : x ∈ rightL) : Ln x := ln_dec (List.all_eq_true.mp (by decide +kernel : (rightL.all fun x => PyData.strOk x && decide (x.length ≤ 1000)) = true) x h)
theorem em_ln : Ln emS := ln_dec (by decide +kernel)
theorem read_lines {ps : List (Str × Str)} (h : Sl ps) : f_read_slips [lnT ps] = some (psT ps, [lnT ps]) := by
  have sz := size_le
  have hl := h.len
  have e : lnT ps = .tuple ((ps.map lineS).map .str) := by
    show PyData.tuple _ = _
    rw [List.map_map]
    rfl
  have hr : ∀ r ∈ ps.map lineS, Ln r := fun r hr => by
    obtain ⟨p, hp, rfl⟩ := List.mem_map.mp hr
    exact line_ln (h.all p hp).1 (h.all p hp).2
  have hb : ∀ (l : List (Str × Str)) (k : Nat), (∀ p ∈ l, p ∈ ps) → rdBad k (l.map lineS) = none := by
    intro l
    induction l with
    | nil => intro k _; rfl
    | cons p l ih =>
      intro k hm
      have hp := h.all p (hm p List.mem_cons_self)
      rw [List.map_cons, rdBad, (line_jd hp.1 hp.2).1]
      exact ih (k + 1) fun q hq => hm q (List.mem_cons_of_mem _ hq)
  have hz := hb ps 0 fun p hp => hp
  rw [e]
  rcases f_read (rows := ps.map lineS) (by simp [h.pos]) hr (by rw [List.length_map]; omega) with ⟨_, l⟩ | ⟨j, i, e2, _⟩
  · rw [l]
    have : (ps.map lineS).map (fun r => pairD (pr1 r)) = ps.map pairD := by
      rw [List.map_map]
      refine List.map_congr_left fun p hp => ?_
      show pairD (pr1 (lineS p)) = _
      rw [(line_jd (h.all p hp).1 (h.all p hp).2).2]
    rw [this]
  · rw [hz] at e2
    cases e2
theorem f_rows (ns : List Int) {ps : List (Str × Str)} (h : Sl ps) : f__law_rows [scr ns, psL ps] = some (.bool true, [scr ns, psL ps]) := by
  have sz := size_le
  have hlen := h.len
  have okp : ∀ p ∈ ps, PyData.strOk p.1 = true ∧ PyData.strOk p.2 = true := fun p hp => ⟨(h.all p hp).1.ok, (h.all p hp).2.ok⟩
  obtain ⟨DL, hDL⟩ : ∃ DL, DL = lnT ps := ⟨_, rfl⟩
  have okD : okS 6 DL = true := by rw [hDL]; exact ok_lines (by omega) h.all
  have e2 : xL oTup (xCons (xCmp (lSeq (xV 1)) (gSet 3) bYes (x2 dAdd (x2 dAdd (x2 dIx (xV 3) (xK (.int 0))) (xK (.str " "))) (x2 dIx (xV 3) (xK (.int 1))))) xNil) [scr ns, psL ps, .none, .none, .none, .none, .none, .none, .none, .none, .none] = some DL := by
    rw [hDL]
    exact tpl (xCmp_m pairD (fun p => .str (lineS p)) (fun p => [scr ns, psL ps, .none, pairD p, .none, .none, .none, .none, .none, .none, .none]) ps rfl (by omega) fun p hp => ⟨rfl, line_add (i := 3) rfl (h.all p hp).1 (h.all p hp).2⟩)
  have sl : f_slip_lines [psT ps] = some (DL, [psT ps]) := by rw [hDL]; exact f_slines h.pos (by omega) h.all
  have rd : f_read_slips [DL] = some (psT ps, [DL]) := by rw [hDL]; exact read_lines h
  have c1 : bOr (bNot (bE (xCall (f__law_same 6) (xCons (xCall f_slip_lines (xCons (xL oTup (xCons (xV 1) xNil)) xNil)) (xCons (xV 2) xNil))))) (bNot (bE (xCall (f__law_same 6) (xCons (xCall f_slip_lines (xRo [0] (xCons (xL oTup (xCons (xV 1) xNil)) xNil))) (xCons (xV 2) xNil))))) [scr ns, psL ps, DL, .none, .none, .none, .none, .none, .none, .none, .none] = some false :=
    or_f (smN (call1 (tpl rfl) sl) rfl okD) (smN (call1K (tpl rfl) sl) rfl okD)
  have c2 : bOr (bNot (bE (xCall (f__law_same 6) (xCons (xCall f_read_slips (xCons (xV 2) xNil)) (xCons (xL oTup (xCons (xV 1) xNil)) xNil))))) (bNot (bE (xCall (f__law_same 6) (xCons (xCall f_read_slips (xRo [0] (xCons (xV 2) xNil))) (xCons (xL oTup (xCons (xV 1) xNil)) xNil))))) [scr ns, psL ps, DL, .none, .none, .none, .none, .none, .none, .none, .none] = some false :=
    or_f (smN (call1 rfl rd) (tpl rfl) (ok_pairs (by omega) okp)) (smN (call1K rfl rd) (tpl rfl) (ok_pairs (by omega) okp))
  -- the menu
  have e4 : xL mkLst (xCons (xK (.str "a b")) (xCons (xK (.str " b")) (xCons (xK (.str "a ")) (xCons (xK (.str " ")) (xCons (xK (.str "")) (xCons (xK (.str "a")) (xCons (xK (.str "a b c")) (xCons (xK (.str "a  b")) (xCons (xK (.str ">~ 0")) (xCons (xK (.str " a b")) (xCons (xK (.str "a b ")) (xCons (xK (.str "  ")) (xCons (xK (.str "b a")) (xCons (xK (.str "~ ~")) xNil)))))))))))))) [scr ns, psL ps, DL, .none, .none, .none, .none, .none, .none, .none, .none] = some (strD menuL) :=
    ls_of (ds := menuL.map .str) (lst_cons rfl (lst_cons rfl (lst_cons rfl (lst_cons rfl (lst_cons rfl (lst_cons rfl (lst_cons rfl (lst_cons rfl (lst_cons rfl (lst_cons rfl (lst_cons rfl (lst_cons rfl (lst_cons rfl (lst_cons rfl lst_nil)))))))))))))) (by simp)
  obtain ⟨v, hv, ev⟩ := more_of (δ := [scr ns, psL ps, DL, .none, strD menuL, .none, .none, .none, .none, .none, .none]) (ns := ns) (a := 1) (A := 1) (k := 10) (L := 4) rfl rfl (by decide)
  obtain ⟨rows, rl, rg, er⟩ := xCmp_ex (i := 6) (n := 1 + v) (f := x2 dIx (xV 4) (xCall f__law_num (xCons (xV 0) (xCons (x2 dAdd (xK (.int 11)) (x2 dMul (xK (.int 3)) (xV 6))) (xCons (xK (.int 14)) xNil))))) (g := x2 dAdd (xK (.int 1)) (xCall f__law_num (xCons (xV 0) (xCons (xK (.int 10)) (xCons (xK (.int 4)) xNil))))) (δ := [scr ns, psL ps, DL, .none, strD menuL, .none, .none, .none, .none, .none, .none])
    PyData.str (fun x => x ∈ menuL) ev (by omega) fun j hj => by
      obtain ⟨u, hu, eu⟩ := lnum_of (δ := [scr ns, psL ps, DL, .none, strD menuL, .none, .int j, .none, .none, .none, .none]) (f := xV 0) (g := x2 dAdd (xK (.int 11)) (x2 dMul (xK (.int 3)) (xV 6))) (h := xK (.int 14)) (ns := ns) (k := 11 + 3 * j) (L := 14) rfl (lin3 rfl) rfl (by decide)
      have hu' : u < menuL.length := by show u < 14; omega
      refine ⟨menuL[u], List.getElem_mem hu', ?_⟩
      show x2 _ _ _ [scr ns, psL ps, DL, .none, strD menuL, .none, .int j, .none, .none, .none, .none] = _
      rw [x2_of (d := strD menuL) rfl eu, dIx_l]
      exact atI_of (by rw [List.getElem?_map, List.getElem?_eq_getElem hu']; rfl)
  have rne : rows ≠ [] := fun z => by rw [z] at rl; simp at rl; omega
  have rln : ∀ r ∈ rows, Ln r := fun r hr => menu_ln (rg r hr)
  have c3 : bNot (bE (xCall f__law_reads (xCons (xV 5) xNil))) [scr ns, psL ps, DL, .none, strD menuL, strD rows, .none, .none, .none, .none, .none] = some false := bN_of (bE_of (call1 (a := strD rows) rfl (f_reads rne rln (by omega))))
  have e7 : xL mkLst (xCons (xK (.str "a b")) (xCons (xK (.str "b a")) (xCons (xK (.str "~ ~")) (xCons (xK (.str ">~ 0")) xNil)))) [scr ns, psL ps, DL, .none, strD menuL, strD rows, .none, .none, .none, .none, .none] = some (strD rightL) :=
    ls_of (ds := rightL.map .str) (lst_cons rfl (lst_cons rfl (lst_cons rfl (lst_cons rfl lst_nil)))) (by simp)
  obtain ⟨δ1, l1, a, rfl⟩ := forL_inv (tg := gSet 6) (b := sIf (bNot (bE (xCall f__law_reads (xCons (x2 dCatL (xCmp (lOf rng1 (xCons (xV 6) xNil)) (gSet 8) bYes (x2 dIx (xV 7) (x2 dMd (xL oInt (xCons (x2 dAdd (xV 8) (xV 6)) xNil)) (xK (.int 4))))) (xL mkLst (xCons (x2 dIx (xV 5) (xV 6)) (xCons (xK (.str "")) xNil)))) xNil)))) (sRet (xK (.bool false))) sNil)
    (fun _ δ => ∃ a, δ = [scr ns, psL ps, DL, .none, strD menuL, strD rows, a, strD rightL, .none, .none, .none]) (rngD 0 rows.length) 0 [scr ns, psL ps, DL, .none, strD menuL, strD rows, .none, strD rightL, .none, .none, .none] ⟨_, rfl⟩ fun j d δ hd ⟨a, e⟩ => by
    subst e
    obtain ⟨rfl, hj⟩ := rng_get hd
    refine ⟨[scr ns, psL ps, DL, .none, strD menuL, strD rows, .int j, strD rightL, .none, .none, .none], _, rfl, ?_, .int j, rfl⟩
    obtain ⟨pre, pl, pg, ep⟩ := xCmp_ex (i := 8) (n := j) (f := x2 dIx (xV 7) (x2 dMd (xL oInt (xCons (x2 dAdd (xV 8) (xV 6)) xNil)) (xK (.int 4)))) (g := xV 6) (δ := [scr ns, psL ps, DL, .none, strD menuL, strD rows, .int j, strD rightL, .none, .none, .none])
      PyData.str (fun x => x ∈ rightL) rfl (by omega) fun i hi => by
        have hlt : (i + j) % 4 < rightL.length := Nat.mod_lt _ (by decide)
        refine ⟨rightL[(i + j) % 4], List.getElem_mem hlt, ?_⟩
        show x2 _ _ _ [scr ns, psL ps, DL, .none, strD menuL, strD rows, .int j, strD rightL, .int i, .none, .none] = _
        rw [x2_of (d := strD rightL) (e := .int (((i + j) % 4 : Nat) : Int)) rfl (by
          rw [x2_of (d := .int ((i : Int) + j)) (e := .int 4) rfl rfl, dMd_e (by decide)]
          congr 2), dIx_l]
        exact atI_of (by rw [List.getElem?_map, List.getElem?_eq_getElem hlt]; rfl)
    have er : x2 dIx (xV 5) (xV 6) [scr ns, psL ps, DL, .none, strD menuL, strD rows, .int j, strD rightL, .none, .none, .none] = some (.str rows[j]) := by
      rw [x2_of (d := strD rows) (e := .int j) rfl rfl, dIx_l]
      exact atI_of (by rw [List.getElem?_map, List.getElem?_eq_getElem hj]; rfl)
    have eq : x2 dCatL (xCmp (lOf rng1 (xCons (xV 6) xNil)) (gSet 8) bYes (x2 dIx (xV 7) (x2 dMd (xL oInt (xCons (x2 dAdd (xV 8) (xV 6)) xNil)) (xK (.int 4))))) (xL mkLst (xCons (x2 dIx (xV 5) (xV 6)) (xCons (xK (.str "")) xNil))) [scr ns, psL ps, DL, .none, strD menuL, strD rows, .int j, strD rightL, .none, .none, .none] = some (strD (pre ++ [rows[j], emS])) := by
      rw [x2_of ep (ls_of (ds := [.str rows[j], .str emS]) (lst_cons er (lst_cons rfl lst_nil)) (by simp)), cat_e _ _ (by rw [List.length_map]; simp only [List.length_cons, List.length_nil]; omega)]
      show _ = some (PyData.list (List.map PyData.str (_ ++ _)))
      rw [List.map_append]
      rfl
    have q := bN_of (bE_of (call1 eq (f_reads (rows := pre ++ [rows[j], emS]) (by simp) (fun r hr => by
      rcases List.mem_append.mp hr with z | z
      · exact right_ln (pg r z)
      · simp only [List.mem_cons, List.not_mem_nil, or_false] at z
        rcases z with z | z
        · rw [z]; exact rln _ (List.getElem_mem hj)
        · rw [z]; exact em_ln) (by rw [List.length_append]; simp only [List.length_cons, List.length_nil]; omega))))
    rw [if_f q]
    rfl
  -- no lines
  obtain ⟨p0, ps', hps⟩ : ∃ p0 ps', ps = p0 :: ps' := List.exists_cons_of_ne_nil h.pos
  obtain ⟨asked, hask⟩ : ∃ l : List D, l = [.tuple [], .list (ps.map fun p => .str (lineS p)), .none, .str (lineS p0), .int 3, .tuple ((ps.map fun p => PyData.str (lineS p)) ++ [.none]), .tuple [.str "a", .bool true], .tuple [DL], .tuple [.str "a b", .tuple [.str "a", .str "b"]]] := ⟨_, rfl⟩
  have hno : ∀ d ∈ asked, plainL d = true ∧ linesD d = false := fun d hd => by
    rw [hask] at hd
    simp only [List.mem_cons, List.not_mem_nil, or_false] at hd
    rcases hd with rfl | rfl | rfl | rfl | rfl | rfl | rfl | rfl | rfl
    · exact ⟨rfl, rfl⟩
    · exact ⟨rfl, rfl⟩
    · exact ⟨rfl, rfl⟩
    · exact ⟨rfl, rfl⟩
    · exact ⟨rfl, rfl⟩
    · refine ⟨?_, ?_⟩
      · show ((ps.map fun p => PyData.str (lineS p)) ++ [PyData.none]).all noDict = true
        rw [List.all_append, List.all_map, List.all_cons]
        simp [noDict]
      · show (!((ps.map fun p => PyData.str (lineS p)) ++ [PyData.none]).isEmpty && ((ps.map fun p => PyData.str (lineS p)) ++ [PyData.none]).all isS) = false
        rw [List.all_append]
        simp [isS]
    · exact ⟨rfl, rfl⟩
    · rw [hDL]; exact ⟨rfl, rfl⟩
    · exact ⟨rfl, rfl⟩
  obtain ⟨KL, hKL⟩ : ∃ KL, KL = PyData.list (ps.map fun p => .str (lineS p)) := ⟨_, rfl⟩
  have eK : ∀ r, xL oLst (xCons (xV 2) xNil) (scr ns :: psL ps :: DL :: r) = some KL := fun r => by
    rw [xL1 (d := DL) rfl, hKL, hDL]; rfl
  have es : lSeq (xL mkLst (xCons (xL mkTup xNil) (xCons (xV 9) (xCons (xK .none) (xCons (x2 dIx (xV 2) (xK (.int 0))) (xCons (xK (.int 3)) (xCons (x2 dPlus (xV 2) (xL mkTup (xCons (xK .none) xNil))) (xCons (xL mkTup (xCons (xK (.str "a")) (xCons (xK (.bool true)) xNil))) (xCons (xL mkTup (xCons (xV 2) xNil)) (xCons (xL mkTup (xCons (xK (.str "a b")) (xCons (xL mkTup (xCons (xK (.str "a")) (xCons (xK (.str "b")) xNil))) xNil))) xNil)))))))))) [scr ns, psL ps, DL, .none, strD menuL, strD rows, a, strD rightL, .none, KL, .none] = some asked := by
    rw [lSeq_e, ls_of (ds := asked) (by
      rw [hask]
      refine lst_cons (tp_of lst_nil (by simp)) (lst_cons (by rw [← hKL]; rfl) (lst_cons rfl (lst_cons ?_ (lst_cons rfl (lst_cons ?_ (lst_cons (tp2 rfl rfl) (lst_cons (tp1 rfl) (lst_cons (tp2 rfl (tp2 rfl rfl)) lst_nil))))))))
      · rw [x2_of (d := DL) (e := .int 0) rfl rfl, hDL, hps]
        exact at0 _ _
      · rw [x2_of (d := DL) (e := .tuple [.none]) rfl (tp1 rfl), hDL]
        exact plus_t _ _ (by rw [List.length_map]; simp only [List.length_singleton]; omega)) (by rw [hask]; simp)]
    rfl
  obtain ⟨δ2, l2, b, rfl⟩ := forL_inv (tg := gSet 10) (b := sIf (bNot (bE (xCall f__law_refused (xCons (xK (.int 2)) (xCons (xV 10) (xCons (xK (.int 0)) (xCons (xK (.str "lines")) xNil))))))) (sRet (xK (.bool false))) sNil)
    (fun _ δ => ∃ b, δ = [scr ns, psL ps, DL, .none, strD menuL, strD rows, a, strD rightL, .none, KL, b]) asked 0 [scr ns, psL ps, DL, .none, strD menuL, strD rows, a, strD rightL, .none, KL, .none] ⟨_, rfl⟩ fun j d δ hd ⟨b, e⟩ => by
    subst e
    obtain ⟨n1, n2⟩ := hno d (List.mem_of_getElem? hd)
    refine ⟨[scr ns, psL ps, DL, .none, strD menuL, strD rows, a, strD rightL, .none, KL, d], _, rfl, ?_, d, rfl⟩
    have q0 : bNot (bE (xCall f__law_refused (xCons (xK (.int 2)) (xCons (xV 10) (xCons (xK (.int 0)) (xCons (xK (.str "lines")) xNil)))))) [scr ns, psL ps, DL, .none, strD menuL, strD rows, a, strD rightL, .none, KL, d] = some false := bN_of (k := true) (bE_of (by
      rw [xCall_e]
      show ((f__law_refused [.int 2, d, .int 0, .str "lines"]).map _) = _
      rw [f_ref2 n1 n2]; rfl))
    rw [if_f q0]
    rfl
  refine fn_rt (δ' := [scr ns, psL ps, DL, .none, strD menuL, strD rows, a, strD rightL, .none, KL, b]) ?_ rfl
  show g__law_rows [scr ns, psL ps, .none, .none, .none, .none, .none, .none, .none, .none, .none] = _
  unfold g__law_rows
  rw [set_of e2]
  show sSeq _ _ [scr ns, psL ps, DL, .none, .none, .none, .none, .none, .none, .none, .none] = _
  rw [pass_if c1, pass_if c2, set_of e4]
  show sSeq _ _ [scr ns, psL ps, DL, .none, strD menuL, .none, .none, .none, .none, .none, .none] = _
  rw [set_of er]
  show sSeq _ _ [scr ns, psL ps, DL, .none, strD menuL, strD rows, .none, .none, .none, .none, .none] = _
  rw [pass_if c3, set_of e7]
  show sSeq _ _ [scr ns, psL ps, DL, .none, strD menuL, strD rows, .none, strD rightL, .none, .none, .none] = _
  refine (for_nx (rng_of (n := rows.length) (by
    rw [xL1 (d := strD rows) rfl]
    show some (PyData.int ((rows.map PyData.str).length : Nat)) = _
    rw [List.length_map]) (by omega)) l1).trans ?_
  rw [set_of (eK _)]
  show sSeq _ _ [scr ns, psL ps, DL, .none, strD menuL, strD rows, a, strD rightL, .none, KL, .none] = _
  refine (for_nx es l2).trans (ret_of ?_)
  rw [x2_of (d := KL) (e := KL) rfl (eK _), hKL]
  have e : (ps.map fun p => PyData.str (lineS p)) = (ps.map lineS).map PyData.str := by rw [List.map_map]; rfl
  have sh : ∀ l : List Str, (∀ x ∈ l, PyData.strOk x = true) → PyData.canLayAll0 (l.map PyData.str) = true ∧ PyData.depthAll (l.map PyData.str) = 0 := by
    intro l
    induction l with
    | nil => intro _; simp [PyData.canLayAll0, PyData.depthAll]
    | cons x l ih =>
      intro hx
      obtain ⟨i1, i2⟩ := ih fun y hy => hx y (List.mem_cons_of_mem _ hy)
      simp [PyData.canLayAll0, PyData.depthAll, PyData.canLay0, PyData.depth, i1, i2, hx x List.mem_cons_self]
  have ev : ∀ l : List Str, PyData.eqvAll (l.map PyData.str) (l.map PyData.str) = true := by
    intro l
    induction l with
    | nil => simp [PyData.eqvAll]
    | cons x l ih => simp [PyData.eqvAll, PyData.eqv, ih]
  rw [e]
  obtain ⟨i1, i2⟩ := sh (ps.map lineS) fun x hx => by
    obtain ⟨p, hp, rfl⟩ := List.mem_map.mp hx
    exact (line_ln (h.all p hp).1 (h.all p hp).2).ok
  unfold dEq
  rw [show SeqAt.shaped (.list ((ps.map lineS).map PyData.str)) = true by
    unfold SeqAt.shaped
    rw [PyData.canLay0, PyData.depth, i1, i2]
    rfl]
  show some (PyData.bool (PyData.eqv _ _)) = _
  rw [PyData.eqv, ev]
theorem law_pure : ∀ ns : List Int, ns.length ≤ 63 → ∃ ds', f_law [.list (ns.map .int)] = some (.bool true, ds') := by
  intro ns _
  obtain ⟨ps, h, e⟩ := f_lpairs ns
  refine ⟨_, fn_rt (δ' := [scr ns, psL ps]) ?_ rfl⟩
  show g_law [scr ns, .none] = _
  unfold g_law
  rw [set_of (call1 (a := scr ns) rfl e)]
  show sSeq _ _ [scr ns, psL ps] = _
  have c : bOr (bNot (bE (xCall f__law_kinds (xCons (xV 1) xNil)))) (bNot (bE (xCall f__law_bad (xCons (xV 0) (xCons (xV 1) xNil))))) [scr ns, psL ps] = some false :=
    or_f (bN_of (bE_of (call1 (a := psL ps) rfl (f_kinds h)))) (bN_of (bE_of (call2 (a := scr ns) (b := psL ps) rfl rfl (f_bad ns h))))
  rw [pass_if c]
  exact ret_of (xand_k (k := true) (k' := true) (call2 (a := scr ns) (b := psL ps) rfl rfl (f_heaps ns h)) fun _ => call2 (a := scr ns) (b := psL ps) rfl rfl (f_rows ns h))
end LawK36

set_option Elab.async false
set_option linter.all false
set_option maxRecDepth 100000
set_option maxHeartbeats 4000000
/-! unsewn_k36_whole_slips_there_and_back: the derivations (printed by pvgen.py) -/
namespace LawK36
open PySem PySem.Spec PyProof.Rows L2 Pv
def clsMem : Stmt → Nat → Stmt
  | .ClassDef _ _ _ b _ _ _ _ _ _ _, j => b.getD j (.Pass ⟨0, 0, 0, 0⟩)
  | s, _ => s
def top (i : Nat) : Stmt := PySem.Challenge.pw_unsewn_k36_whole_slips_there_and_back.main.body.getD i (.Pass ⟨0, 0, 0, 0⟩)
abbrev st__is_name : Stmt := top 10
abbrev st__are_lines : Stmt := top 17
abbrev st__law_num : Stmt := top 19
abbrev st__law_called : Stmt := top 24
abbrev st__law_parts : Stmt := top 25
abbrev st__law_bad_slips : Stmt := top 29
abbrev st_is_slip : Stmt := top 7
abbrev st__are_names : Stmt := top 11
abbrev st_read_slips : Stmt := top 16
abbrev st__law_name : Stmt := top 22
abbrev st__law_read : Stmt := top 26
abbrev st_slips_of : Stmt := top 9
abbrev st__are_slips : Stmt := top 12
abbrev st__law_pairs : Stmt := top 23
abbrev st_heap_of : Stmt := top 8
abbrev st_slip_lines : Stmt := top 14
abbrev st__law_same : Stmt := top 20
abbrev st__law_refused : Stmt := top 21
abbrev st__law_reads : Stmt := top 27
abbrev st__law_kinds : Stmt := top 28
abbrev st__law_bad : Stmt := top 30
abbrev st__law_names : Stmt := top 32
abbrev st__law_rows : Stmt := top 33
abbrev st__law_heaps : Stmt := top 31
abbrev st_law : Stmt := top 34
abbrev st_InvalidText : Stmt := clsMem (top 5) 0
abbrev st_NotUsable : Stmt := clsMem (top 4) 0
structure Tx (K : PySem.W.Frag) (mg : Str → Option Value) where
  a__is_name : Addr
  d__is_name : FuncData
  m__is_name : mg "_is_name" = some (.ref a__is_name)
  k__is_name : PySem.W.keepIn K (.ref a__is_name) = true
  f__is_name : Fun K "_is_name" "_is_name" st__is_name a__is_name d__is_name
  b__is_name : Binds K d__is_name ["thing"] []
  a__are_lines : Addr
  d__are_lines : FuncData
  m__are_lines : mg "_are_lines" = some (.ref a__are_lines)
  k__are_lines : PySem.W.keepIn K (.ref a__are_lines) = true
  f__are_lines : Fun K "_are_lines" "_are_lines" st__are_lines a__are_lines d__are_lines
  b__are_lines : Binds K d__are_lines ["thing"] []
  a__law_num : Addr
  d__law_num : FuncData
  m__law_num : mg "_law_num" = some (.ref a__law_num)
  k__law_num : PySem.W.keepIn K (.ref a__law_num) = true
  f__law_num : Fun K "_law_num" "_law_num" st__law_num a__law_num d__law_num
  b__law_num : Binds K d__law_num ["_law_script", "_law_k", "_law_limit"] []
  a__law_called : Addr
  d__law_called : FuncData
  m__law_called : mg "_law_called" = some (.ref a__law_called)
  k__law_called : PySem.W.keepIn K (.ref a__law_called) = true
  f__law_called : Fun K "_law_called" "_law_called" st__law_called a__law_called d__law_called
  b__law_called : Binds K d__law_called ["_law_pairs_here"] []
  a__law_parts : Addr
  d__law_parts : FuncData
  m__law_parts : mg "_law_parts" = some (.ref a__law_parts)
  k__law_parts : PySem.W.keepIn K (.ref a__law_parts) = true
  f__law_parts : Fun K "_law_parts" "_law_parts" st__law_parts a__law_parts d__law_parts
  b__law_parts : Binds K d__law_parts ["_law_told"] []
  a__law_bad_slips : Addr
  d__law_bad_slips : FuncData
  m__law_bad_slips : mg "_law_bad_slips" = some (.ref a__law_bad_slips)
  k__law_bad_slips : PySem.W.keepIn K (.ref a__law_bad_slips) = true
  f__law_bad_slips : Fun K "_law_bad_slips" "_law_bad_slips" st__law_bad_slips a__law_bad_slips d__law_bad_slips
  b__law_bad_slips : Binds K d__law_bad_slips [] []
  a_is_slip : Addr
  d_is_slip : FuncData
  m_is_slip : mg "is_slip" = some (.ref a_is_slip)
  k_is_slip : PySem.W.keepIn K (.ref a_is_slip) = true
  f_is_slip : Fun K "is_slip" "is_slip" st_is_slip a_is_slip d_is_slip
  b_is_slip : Binds K d_is_slip ["thing"] []
  a__are_names : Addr
  d__are_names : FuncData
  m__are_names : mg "_are_names" = some (.ref a__are_names)
  k__are_names : PySem.W.keepIn K (.ref a__are_names) = true
  f__are_names : Fun K "_are_names" "_are_names" st__are_names a__are_names d__are_names
  b__are_names : Binds K d__are_names ["thing"] []
  a_read_slips : Addr
  d_read_slips : FuncData
  m_read_slips : mg "read_slips" = some (.ref a_read_slips)
  k_read_slips : PySem.W.keepIn K (.ref a_read_slips) = true
  f_read_slips : Fun K "read_slips" "read_slips" st_read_slips a_read_slips d_read_slips
  b_read_slips : Binds K d_read_slips ["lines"] []
  a__law_name : Addr
  d__law_name : FuncData
  m__law_name : mg "_law_name" = some (.ref a__law_name)
  k__law_name : PySem.W.keepIn K (.ref a__law_name) = true
  f__law_name : Fun K "_law_name" "_law_name" st__law_name a__law_name d__law_name
  b__law_name : Binds K d__law_name ["_law_script", "_law_k"] []
  a__law_read : Addr
  d__law_read : FuncData
  m__law_read : mg "_law_read" = some (.ref a__law_read)
  k__law_read : PySem.W.keepIn K (.ref a__law_read) = true
  f__law_read : Fun K "_law_read" "_law_read" st__law_read a__law_read d__law_read
  b__law_read : Binds K d__law_read ["_law_rows_here"] []
  a_slips_of : Addr
  d_slips_of : FuncData
  m_slips_of : mg "slips_of" = some (.ref a_slips_of)
  k_slips_of : PySem.W.keepIn K (.ref a_slips_of) = true
  f_slips_of : Fun K "slips_of" "slips_of" st_slips_of a_slips_of d_slips_of
  b_slips_of : Binds K d_slips_of ["names", "heap"] []
  a__are_slips : Addr
  d__are_slips : FuncData
  m__are_slips : mg "_are_slips" = some (.ref a__are_slips)
  k__are_slips : PySem.W.keepIn K (.ref a__are_slips) = true
  f__are_slips : Fun K "_are_slips" "_are_slips" st__are_slips a__are_slips d__are_slips
  b__are_slips : Binds K d__are_slips ["thing"] []
  a__law_pairs : Addr
  d__law_pairs : FuncData
  m__law_pairs : mg "_law_pairs" = some (.ref a__law_pairs)
  k__law_pairs : PySem.W.keepIn K (.ref a__law_pairs) = true
  f__law_pairs : Fun K "_law_pairs" "_law_pairs" st__law_pairs a__law_pairs d__law_pairs
  b__law_pairs : Binds K d__law_pairs ["_law_script"] []
  a_heap_of : Addr
  d_heap_of : FuncData
  m_heap_of : mg "heap_of" = some (.ref a_heap_of)
  k_heap_of : PySem.W.keepIn K (.ref a_heap_of) = true
  f_heap_of : Fun K "heap_of" "heap_of" st_heap_of a_heap_of d_heap_of
  b_heap_of : Binds K d_heap_of ["slips"] []
  a_slip_lines : Addr
  d_slip_lines : FuncData
  m_slip_lines : mg "slip_lines" = some (.ref a_slip_lines)
  k_slip_lines : PySem.W.keepIn K (.ref a_slip_lines) = true
  f_slip_lines : Fun K "slip_lines" "slip_lines" st_slip_lines a_slip_lines d_slip_lines
  b_slip_lines : Binds K d_slip_lines ["slips"] []
  a__law_same : Addr
  d__law_same : FuncData
  m__law_same : mg "_law_same" = some (.ref a__law_same)
  k__law_same : PySem.W.keepIn K (.ref a__law_same) = true
  f__law_same : Fun K "_law_same" "_law_same" st__law_same a__law_same d__law_same
  b__law_same : Binds K d__law_same ["_law_got", "_law_due"] []
  a__law_refused : Addr
  d__law_refused : FuncData
  m__law_refused : mg "_law_refused" = some (.ref a__law_refused)
  k__law_refused : PySem.W.keepIn K (.ref a__law_refused) = true
  f__law_refused : Fun K "_law_refused" "_law_refused" st__law_refused a__law_refused d__law_refused
  b__law_refused : Binds K d__law_refused ["_law_which", "_law_first", "_law_second", "_law_told"] []
  a__law_reads : Addr
  d__law_reads : FuncData
  m__law_reads : mg "_law_reads" = some (.ref a__law_reads)
  k__law_reads : PySem.W.keepIn K (.ref a__law_reads) = true
  f__law_reads : Fun K "_law_reads" "_law_reads" st__law_reads a__law_reads d__law_reads
  b__law_reads : Binds K d__law_reads ["_law_rows_here"] []
  a__law_kinds : Addr
  d__law_kinds : FuncData
  m__law_kinds : mg "_law_kinds" = some (.ref a__law_kinds)
  k__law_kinds : PySem.W.keepIn K (.ref a__law_kinds) = true
  f__law_kinds : Fun K "_law_kinds" "_law_kinds" st__law_kinds a__law_kinds d__law_kinds
  b__law_kinds : Binds K d__law_kinds ["_law_pairs_here"] []
  a__law_bad : Addr
  d__law_bad : FuncData
  m__law_bad : mg "_law_bad" = some (.ref a__law_bad)
  k__law_bad : PySem.W.keepIn K (.ref a__law_bad) = true
  f__law_bad : Fun K "_law_bad" "_law_bad" st__law_bad a__law_bad d__law_bad
  b__law_bad : Binds K d__law_bad ["_law_script", "_law_pairs_here"] []
  a__law_names : Addr
  d__law_names : FuncData
  m__law_names : mg "_law_names" = some (.ref a__law_names)
  k__law_names : PySem.W.keepIn K (.ref a__law_names) = true
  f__law_names : Fun K "_law_names" "_law_names" st__law_names a__law_names d__law_names
  b__law_names : Binds K d__law_names ["_law_script", "_law_anew", "_law_wider"] []
  a__law_rows : Addr
  d__law_rows : FuncData
  m__law_rows : mg "_law_rows" = some (.ref a__law_rows)
  k__law_rows : PySem.W.keepIn K (.ref a__law_rows) = true
  f__law_rows : Fun K "_law_rows" "_law_rows" st__law_rows a__law_rows d__law_rows
  b__law_rows : Binds K d__law_rows ["_law_script", "_law_pairs_here"] []
  a__law_heaps : Addr
  d__law_heaps : FuncData
  m__law_heaps : mg "_law_heaps" = some (.ref a__law_heaps)
  k__law_heaps : PySem.W.keepIn K (.ref a__law_heaps) = true
  f__law_heaps : Fun K "_law_heaps" "_law_heaps" st__law_heaps a__law_heaps d__law_heaps
  b__law_heaps : Binds K d__law_heaps ["_law_script", "_law_pairs_here"] []
  a_law : Addr
  d_law : FuncData
  m_law : mg "law" = some (.ref a_law)
  k_law : PySem.W.keepIn K (.ref a_law) = true
  f_law : Fun K "law" "law" st_law a_law d_law
  b_law : Binds K d_law ["_law_script"] []
  kb_is_slip_thing : KwB K d_is_slip ["thing"] ["thing"] [0]
  kb_slip_lines_slips : KwB K d_slip_lines ["slips"] ["slips"] [0]
  kb_read_slips_lines : KwB K d_read_slips ["lines"] ["lines"] [0]
  kb_heap_of_slips : KwB K d_heap_of ["slips"] ["slips"] [0]
  kb_slips_of_heap_names : KwB K d_slips_of ["names", "heap"] ["heap", "names"] [1, 0]
  C_InvalidText : Addr
  fI_InvalidText : Addr
  dI_InvalidText : FuncData
  gC_InvalidText : mg "InvalidText" = some (.ref C_InvalidText)
  oex_InvalidText : OexC K C_InvalidText
  xf_InvalidText : XfC K C_InvalidText
  te_InvalidText : PySem.W.exmOne K (.ref C_InvalidText) (.ref C_InvalidText) = some true
  iC_InvalidText : PySem.W.findIn K (.ref C_InvalidText) "__init__" = some (some (.ref fI_InvalidText))
  tI_InvalidText : PySem.W.typeIn K (.ref fI_InvalidText) = some (.type "function")
  FI_InvalidText : Fun K "__init__" "InvalidText.__init__" st_InvalidText fI_InvalidText dI_InvalidText
  bI_InvalidText : Binds K dI_InvalidText ["self", "line", "field"] []
  n_InvalidText_line : PySem.W.findIn K (.ref C_InvalidText) "line" = some none
  n_InvalidText_field : PySem.W.findIn K (.ref C_InvalidText) "field" = some none
  C_NotUsable : Addr
  fI_NotUsable : Addr
  dI_NotUsable : FuncData
  gC_NotUsable : mg "NotUsable" = some (.ref C_NotUsable)
  oex_NotUsable : OexC K C_NotUsable
  xf_NotUsable : XfC K C_NotUsable
  te_NotUsable : PySem.W.exmOne K (.ref C_NotUsable) (.ref C_NotUsable) = some true
  iC_NotUsable : PySem.W.findIn K (.ref C_NotUsable) "__init__" = some (some (.ref fI_NotUsable))
  tI_NotUsable : PySem.W.typeIn K (.ref fI_NotUsable) = some (.type "function")
  FI_NotUsable : Fun K "__init__" "NotUsable.__init__" st_NotUsable fI_NotUsable dI_NotUsable
  bI_NotUsable : Binds K dI_NotUsable ["self", "word", "at"] []
  n_NotUsable_word : PySem.W.findIn K (.ref C_NotUsable) "word" = some none
  n_NotUsable_at : PySem.W.findIn K (.ref C_NotUsable) "at" = some none
  B_BookError : Addr
  gB_BookError : mg "BookError" = some (.ref B_BookError)
  B_TextError : Addr
  gB_TextError : mg "TextError" = some (.ref B_TextError)
  ec_InvalidText : ExcC K C_InvalidText
  is_InvalidText_TextError : PySem.W.kitOne K (.ref C_InvalidText) (.ref B_TextError) = some true
  is_InvalidText_ValueError : PySem.W.kitOne K (.ref C_InvalidText) (.type "ValueError") = some true
  ec_NotUsable : ExcC K C_NotUsable
  is_NotUsable_BookError : PySem.W.kitOne K (.ref C_NotUsable) (.ref B_BookError) = some true
  is_NotUsable_ValueError : PySem.W.kitOne K (.ref C_NotUsable) (.type "ValueError") = some true
  z_ValueError : mg "ValueError" = none
  z_bool : mg "bool" = none
  z_enumerate : mg "enumerate" = none
  z_int : mg "int" = none
  z_isinstance : mg "isinstance" = none
  z_len : mg "len" = none
  z_list : mg "list" = none
  z_range : mg "range" = none
  z_str : mg "str" = none
  z_tuple : mg "tuple" = none
section
variable {P : Program} {w : World} {K : PySem.W.Frag} {mg : Str → Option Value} {base : Heap}
theorem sc_InvalidText : FnScope ["self", "line", "field"] ["self", "line", "field"] (defScope st_InvalidText) := ⟨rfl, rfl, rfl, by decide +kernel, rfl, by decide +kernel, by decide +kernel⟩
theorem ok_init_InvalidText (T : Tx K mg) : FnOk P w K mg base CX0 1 T.fI_InvalidText T.dI_InvalidText ["self", "line", "field"] (spI T.C_InvalidText "line" "field") :=
  ok_init T.FI_InvalidText sc_InvalidText T.oex_InvalidText T.n_InvalidText_line T.n_InvalidText_field (fun cdv A outer s H E hr => pss_cons (ps_ost (pv 0) (pv 1)) (pss_one (ps_ost (pv 0) (pv 2))))
theorem sc_NotUsable : FnScope ["self", "word", "at"] ["self", "word", "at"] (defScope st_NotUsable) := ⟨rfl, rfl, rfl, by decide +kernel, rfl, by decide +kernel, by decide +kernel⟩
theorem ok_init_NotUsable (T : Tx K mg) : FnOk P w K mg base CX0 1 T.fI_NotUsable T.dI_NotUsable ["self", "word", "at"] (spI T.C_NotUsable "word" "at") :=
  ok_init T.FI_NotUsable sc_NotUsable T.oex_NotUsable T.n_NotUsable_word T.n_NotUsable_at (fun cdv A outer s H E hr => pss_cons (ps_ost (pv 0) (pv 1)) (pss_one (ps_ost (pv 0) (pv 2))))
theorem sc__is_name : FnScope ["thing"] ["thing"] (defScope st__is_name) := ⟨rfl, rfl, rfl, by decide +kernel, rfl, by decide +kernel, by decide +kernel⟩
theorem ok__is_name (T : Tx K mg) : FnOk P w K mg base CX0 1 T.a__is_name T.d__is_name ["thing"] (spF K S__is_name) :=
  fn_val (nl := 0) (fo := false) T.f__is_name sc__is_name rfl rfl rfl rfl (fun h => nomatch h) (fun cdv A outer s H E hr => show PSs _ _ (tS _ [.sh] ⟨[.no], [], [], [.no], .sh⟩ _) from
    have sc := sc__is_name
    (zOne (zRet (cOfP (vAnd (cIsi isi_str (by rfl) (by exact T.z_isinstance) (pe_bltn (by rfl) (by exact T.z_str) PyProof.Rows.boot_str rfl) (cV 0 rfl (by decide) (pv 0))) (vAnd (cCmp op_gt gt_s (cCallB call_len' (len_s rfl) (by rfl) (by exact T.z_len) PySem.boot_len (aCons (cV 0 rfl (by decide) (pv 0)) aNil)) cInt (nomark _)) (vOne (cCmp op_notIn_sign notinS_s cStr (cV 0 rfl (by decide) (pv 0)) (by with_unfolding_all rfl)))))) rfl)))
theorem sc__are_lines : FnScope ["thing", "line"] ["thing"] (defScope st__are_lines) := ⟨rfl, rfl, rfl, by decide +kernel, rfl, by decide +kernel, by decide +kernel⟩
theorem ok__are_lines (T : Tx K mg) : FnOk P w K mg base CX0 1 T.a__are_lines T.d__are_lines ["thing"] (spF K S__are_lines) :=
  fn_val (nl := 1) (fo := false) T.f__are_lines sc__are_lines rfl rfl rfl rfl (fun h => nomatch h) (fun cdv A outer s H E hr => show PSs _ _ (tS _ [.sh, .no] ⟨[.no, .no], [], [], [.no, .no], .sh⟩ _) from
    have sc := sc__are_lines
    (zCons (Γ1 := [.sh, .no]) (zIf (qOr (qNot (qVal (cIsi isi_tuple (by rfl) (by exact T.z_isinstance) (pe_bltn (by rfl) (by exact T.z_tuple) PyProof.Rows.boot_tuple rfl) (cV 0 rfl (by decide) (pv 0))))) (qOr1 (qCmp (op_eqD hr.units) (eq_s rfl rfl) (cCallB call_len' (len_s rfl) (by rfl) (by exact T.z_len) PySem.boot_len (aCons (cV 0 rfl (by decide) (pv 0)) aNil)) cInt (nomark _)))).pt (zOne (zRet (cOfP cBl) rfl)) zNil) (zCons (Γ1 := [.sh, .no]) (zFor (Γ := [.sh, .no]) (Γ1 := [.sh, .sh]) PassesOwn.never rfl (iSeq (cV 0 rfl (by decide) (pv 0))) (hName (i := 1) sc.nd rfl (by first | exact .inl rfl | exact .inr rfl) (by decide)) (zWkn (n' := [.sh, .sh]) (zOne (zIf (qNot (qVal (cIsi isi_str (by rfl) (by exact T.z_isinstance) (pe_bltn (by rfl) (by exact T.z_str) PyProof.Rows.boot_str rfl) (cV 1 rfl (by decide) (pv 1))))) (zOne (zRet (cOfP cBl) rfl)) zNil)) rfl) rfl) (zOne (zRet (cOfP cBl) rfl)))))
theorem sc__law_num : FnScope ["_law_script", "_law_k", "_law_limit", "_law_cell"] ["_law_script", "_law_k", "_law_limit"] (defScope st__law_num) := ⟨rfl, rfl, rfl, by decide +kernel, rfl, by decide +kernel, by decide +kernel⟩
theorem ok__law_num (T : Tx K mg) : FnOk P w K mg base CX0 1 T.a__law_num T.d__law_num ["_law_script", "_law_k", "_law_limit"] (spF K S__law_num) :=
  fn_val (nl := 1) (fo := false) T.f__law_num sc__law_num rfl rfl rfl rfl (fun h => nomatch h) (fun cdv A outer s H E hr => show PSs _ _ (tS _ [.sh, .sh, .sh, .no] ⟨[.no, .no, .no, .no], [], [], [.no, .no, .no, .no], .sh⟩ _) from
    have sc := sc__law_num
    (zCons (Γ1 := [.sh, .sh, .sh, .sh]) (zSet (i := 3) sc.nd rfl (by first | exact .inl rfl | exact .inr rfl) (cOfP cInt) (by decide) rfl) (zCons (Γ1 := [.sh, .sh, .sh, .sh]) (zIf (qCmp op_gt gt_s (cCallB call_len' (len_s rfl) (by rfl) (by exact T.z_len) PySem.boot_len (aCons (cV 0 rfl (by decide) (pv 0)) aNil)) cInt (nomark _)) (zOne (zSet (i := 3) sc.nd rfl (by first | exact .inl rfl | exact .inr rfl) (cOfP (cIx ix_sh (cV 0 rfl (by decide) (pv 0)) (c2 op_mod md_s (cCallT call_int1 int_s (by rfl) (by exact T.z_int) PyProof.Rows.boot_int (aCons (cV 1 rfl (by decide) (pv 1)) aNil)) (cCallB call_len' (len_s rfl) (by rfl) (by exact T.z_len) PySem.boot_len (aCons (cV 0 rfl (by decide) (pv 0)) aNil))) (by intro _ _; rfl))) (by decide) rfl)) zNil) (zOne (zRet (cOfP (c2 op_mod md_s (c2 op_mod md_s (cCallT call_int1 int_s (by rfl) (by exact T.z_int) PyProof.Rows.boot_int (aCons (c2 op_add' add_s (c2 op_add' add_s (c2 op_mul' mul_s (cCallT call_int1 int_s (by rfl) (by exact T.z_int) PyProof.Rows.boot_int (aCons (cV 3 rfl (by decide) (pv 3)) aNil)) cInt) (c2 op_mul' mul_s cInt (cV 1 rfl (by decide) (pv 1)))) cInt) aNil)) cInt) (cV 2 rfl (by decide) (pv 2)))) rfl)))))
theorem sc__law_called : FnScope ["_law_pairs_here", "_law_called_here", "_law_pair", "_law_name_here"] ["_law_pairs_here"] (defScope st__law_called) := ⟨rfl, rfl, rfl, by decide +kernel, rfl, by decide +kernel, by decide +kernel⟩
theorem ok__law_called (T : Tx K mg) : FnOk P w K mg base CX0 1 T.a__law_called T.d__law_called ["_law_pairs_here"] (spF K S__law_called) :=
  fn_val (nl := 3) (fo := false) T.f__law_called sc__law_called rfl rfl rfl rfl (fun h => nomatch h) (fun cdv A outer s H E hr => show PSs _ _ (tS _ [.sh, .no, .no, .no] ⟨[.no, .no, .no, .no], [], [], [.no, .no, .no, .no], .sh⟩ _) from
    have sc := sc__law_called
    (zCons (Γ1 := [.sh, (.ol .sh), .no, .no]) (zSet (i := 1) sc.nd rfl (by first | exact .inl rfl | exact .inr rfl) (cNew (t := .sh)) (by decide) rfl) (zCons (Γ1 := [.sh, (.ol .sh), .no, .no]) (zFor (Γ := [.sh, (.ol .sh), .no, .no]) (Γ1 := [.sh, (.ol .sh), .sh, .no]) PassesOwn.never rfl (iSeq (cV 0 rfl (by decide) (pv 0))) (hName (i := 2) sc.nd rfl (by first | exact .inl rfl | exact .inr rfl) (by decide)) (zWkn (n' := [.sh, (.ol .sh), .sh, .no]) (zOne (zFor (Γ := [.sh, (.ol .sh), .sh, .no]) (Γ1 := [.sh, (.ol .sh), .sh, .sh]) PassesOwn.never rfl (iSeq (cV 2 rfl (by decide) (pv 2))) (hName (i := 3) sc.nd rfl (by first | exact .inl rfl | exact .inr rfl) (by decide)) (zWkn (n' := [.sh, (.ol .sh), .sh, .sh]) (zOne (zIf (qCmp op_notIn_seq (notin_s rfl) (cV 3 rfl (by decide) (pv 3)) (cV 1 rfl (by decide) (pv 1)) (by with_unfolding_all rfl)) (zOne (zDrop (mApp 1 (pe_bm PySem.F.plainAttrs_list PySem.F.slot_list_append PySem.F.type_list_append mt_append (pv 1) (pa_cons (mOfP (cV 3 rfl (by decide) (pv 3))) pa_nil)) rfl rfl))) zNil)) rfl) rfl)) rfl) rfl) (zFrz (Γ := [.sh, (.ol .sh), .no, .no]) 1 rfl rfl (zOne (zRet (cOfP (cV 1 rfl (by decide) (pv 1))) rfl))))))
theorem sc__law_parts : FnScope ["_law_told", "_law_parts_here", "_law_sign"] ["_law_told"] (defScope st__law_parts) := ⟨rfl, rfl, rfl, by decide +kernel, rfl, by decide +kernel, by decide +kernel⟩
theorem ok__law_parts (T : Tx K mg) : FnOk P w K mg base CX0 1 T.a__law_parts T.d__law_parts ["_law_told"] (spF K S__law_parts) :=
  fn_val (nl := 2) (fo := false) T.f__law_parts sc__law_parts rfl rfl rfl rfl (fun h => nomatch h) (fun cdv A outer s H E hr => show PSs _ _ (tS _ [.sh, .no, .no] ⟨[.no, .no, .no], [], [], [.no, .no, .no], .sh⟩ _) from
    have sc := sc__law_parts
    (zCons (Γ1 := [.sh, (.ol .sh), .no]) (zSet (i := 1) sc.nd rfl (by first | exact .inl rfl | exact .inr rfl) (cLst (aCons cStr aNil)) (by decide) rfl) (zCons (Γ1 := [.sh, (.ol .sh), .no]) (zFor (Γ := [.sh, (.ol .sh), .no]) (Γ1 := [.sh, (.ol .sh), .sh]) PassesOwn.never rfl (iStrD (cV 0 rfl (by decide) (pv 0))) (hName (i := 2) sc.nd rfl (by first | exact .inl rfl | exact .inr rfl) (by decide)) (zWkn (n' := [.sh, (.ol .sh), .sh]) (zOne (zIf (qCmp (op_eqD hr.units) (eq_s rfl rfl) (cV 2 rfl (by decide) (pv 2)) cStr (nomark _)) (zOne (zDrop (mApp 1 (pe_bm PySem.F.plainAttrs_list PySem.F.slot_list_append PySem.F.type_list_append mt_append (pv 1) (pa_cons (mOfP cStr) pa_nil)) rfl rfl))) (zOne (zSetIx' 1 (pv 1) (cNeg cInt) (mOfP (c2 op_add' add_s (cIx ix_ol (cV 1 rfl (by decide) (pv 1)) (cNeg cInt) (by intro _ _; rfl)) (cV 2 rfl (by decide) (pv 2)))) rfl)))) rfl) rfl) (zFrz (Γ := [.sh, (.ol .sh), .no]) 1 rfl rfl (zOne (zRet (cOfP (cV 1 rfl (by decide) (pv 1))) rfl))))))
theorem sc__law_bad_slips : FnScope ["_law_first"] [] (defScope st__law_bad_slips) := ⟨rfl, rfl, rfl, by decide +kernel, rfl, by decide +kernel, by decide +kernel⟩
theorem ok__law_bad_slips (T : Tx K mg) : FnOk P w K mg base CX0 1 T.a__law_bad_slips T.d__law_bad_slips [] (spF K S__law_bad_slips) :=
  fn_val (nl := 1) (fo := false) T.f__law_bad_slips sc__law_bad_slips rfl rfl rfl rfl (fun h => nomatch h) (fun cdv A outer s H E hr => show PSs _ _ (tS _ [.no] ⟨[.no], [], [], [.no], .sh⟩ _) from
    have sc := sc__law_bad_slips
    (zCons (Γ1 := [(.ol .sh)]) (zSet (i := 0) sc.nd rfl (by first | exact .inl rfl | exact .inr rfl) (cLst (aCons (cTup (aCons cStr (aCons cStr aNil))) (aCons (cTup (aCons cStr (aCons cStr aNil))) (aCons (cTup (aCons cStr (aCons cStr aNil))) (aCons (cTup (aCons cStr (aCons cStr aNil))) (aCons (cTup (aCons cStr (aCons cStr aNil))) (aCons (cTup (aCons cStr (aCons cStr aNil))) (aCons (cTup (aCons cStr aNil)) (aCons (cTup (aCons cStr (aCons cStr (aCons cStr aNil)))) (aCons (cTup aNil) aNil)))))))))) (by decide) rfl) (zOne (zRet (cOfP (cFrz (cCatL (cV 0 rfl (by decide) (pv 0)) (pOfC (cLst (aCons (cFrz (cLst (aCons cStr (aCons cStr aNil)))) (aCons cStr (aCons (cTup (aCons cStr (aCons cInt aNil))) (aCons (cTup (aCons cBl (aCons cStr aNil))) (aCons (cTup (aCons cStr (aCons cNon aNil))) (aCons (cTup (aCons (cTup (aCons cStr aNil)) (aCons cStr aNil))) (aCons cNon (aCons cInt (aCons (cTup (aCons cStr (aCons (cFrz (cLst (aCons cStr aNil))) aNil))) aNil)))))))))))))) rfl))))
theorem sc_is_slip : FnScope ["thing"] ["thing"] (defScope st_is_slip) := ⟨rfl, rfl, rfl, by decide +kernel, rfl, by decide +kernel, by decide +kernel⟩
theorem ok_is_slip (T : Tx K mg) : FnOk P w K mg base CX0 2 T.a_is_slip T.d_is_slip ["thing"] (spF K S_is_slip) :=
  fn_val (nl := 0) (fo := false) T.f_is_slip sc_is_slip rfl rfl rfl rfl (fun h => nomatch h) (fun cdv A outer s H E hr => show PSs _ _ (tS _ [.sh] ⟨[.no], [], [], [.no], .sh⟩ _) from
    have sc := sc_is_slip
    (zCons (Γ1 := [.sh]) (zIf (qOr (qNot (qVal (cIsi isi_tuple (by rfl) (by exact T.z_isinstance) (pe_bltn (by rfl) (by exact T.z_tuple) PyProof.Rows.boot_tuple rfl) (cV 0 rfl (by decide) (pv 0))))) (qOr1 (qCmp (op_neD hr.units) (ne_s rfl rfl) (cCallB call_len' (len_s rfl) (by rfl) (by exact T.z_len) PySem.boot_len (aCons (cV 0 rfl (by decide) (pv 0)) aNil)) cInt (nomark _)))).pt (zOne (zRet (cOfP cBl) rfl)) zNil) (zOne (zRet (cOfP (vAnd (pOfC (cCall (S := (S__is_name)) (ok__is_name T) (hr.mono (by decide)) (by rfl) (by exact T.m__is_name) (by exact T.k__is_name) (by exact T.b__is_name) (aCons (cIx ix_sh (cV 0 rfl (by decide) (pv 0)) cInt (by intro _ _; rfl)) aNil) rfl rfl)) (vOne (pOfC (cCall (S := (S__is_name)) (ok__is_name T) (hr.mono (by decide)) (by rfl) (by exact T.m__is_name) (by exact T.k__is_name) (by exact T.b__is_name) (aCons (cIx ix_sh (cV 0 rfl (by decide) (pv 0)) cInt (by intro _ _; rfl)) aNil) rfl rfl))))) rfl))))
theorem sc__are_names : FnScope ["thing", "known", "name"] ["thing"] (defScope st__are_names) := ⟨rfl, rfl, rfl, by decide +kernel, rfl, by decide +kernel, by decide +kernel⟩
theorem ok__are_names (T : Tx K mg) : FnOk P w K mg base CX0 2 T.a__are_names T.d__are_names ["thing"] (spF K S__are_names) :=
  fn_val (nl := 2) (fo := false) T.f__are_names sc__are_names rfl rfl rfl rfl (fun h => nomatch h) (fun cdv A outer s H E hr => show PSs _ _ (tS _ [.sh, .no, .no] ⟨[.no, .no, .no], [], [], [.no, .no, .no], .sh⟩ _) from
    have sc := sc__are_names
    (zCons (Γ1 := [.sh, .no, .no]) (zIf (qNot (qVal (cIsi isi_tuple (by rfl) (by exact T.z_isinstance) (pe_bltn (by rfl) (by exact T.z_tuple) PyProof.Rows.boot_tuple rfl) (cV 0 rfl (by decide) (pv 0))))) (zOne (zRet (cOfP cBl) rfl)) zNil) (zCons (Γ1 := [.sh, (.dk .sh), .no]) (zSet (i := 1) sc.nd rfl (by first | exact .inl rfl | exact .inr rfl) cDNewK (by decide) rfl) (zCons (Γ1 := [.sh, (.dk .sh), .no]) (zFor (Γ := [.sh, (.dk .sh), .no]) (Γ1 := [.sh, (.dk .sh), .sh]) PassesOwn.never rfl (iSeq (cV 0 rfl (by decide) (pv 0))) (hName (i := 2) sc.nd rfl (by first | exact .inl rfl | exact .inr rfl) (by decide)) (zWkn (n' := [.sh, (.dk .sh), .sh]) (zCons (Γ1 := [.sh, (.dk .sh), .sh]) (zIf (qOr (qNot (qVal (pOfC (cCall (S := (S__is_name)) (ok__is_name T) (hr.mono (by decide)) (by rfl) (by exact T.m__is_name) (by exact T.k__is_name) (by exact T.b__is_name) (aCons (cV 2 rfl (by decide) (pv 2)) aNil) rfl rfl)))) (qOr1 (qCmp (op_din (hu_of hr)) (din_s rfl) (cV 2 rfl (by decide) (pv 2)) (cV 1 rfl (by decide) (pv 1)) (by with_unfolding_all rfl)))).pt (zOne (zRet (cOfP cBl) rfl)) zNil) (zOne (zPutK 1 (ps_dput (hu_of hr) (pv 1) (cV 2 rfl (by decide) (pv 2)) (mOfP cBl) rfl) rfl))) rfl) rfl) (zOne (zRet (cOfP cBl) rfl))))))
theorem sc_read_slips : FnScope ["lines", "slips", "index", "line", "parts"] ["lines"] (defScope st_read_slips) := ⟨rfl, rfl, rfl, by decide +kernel, rfl, by decide +kernel, by decide +kernel⟩
theorem ok_read_slips (T : Tx K mg) : FnOk P w K mg base CX0 2 T.a_read_slips T.d_read_slips ["lines"] (spF K S_read_slips) :=
  fn_val (nl := 4) (fo := false) T.f_read_slips sc_read_slips rfl rfl rfl rfl (fun h => nomatch h) (fun cdv A outer s H E hr => show PSs _ _ (tS _ [.sh, .no, .no, .no, .no] ⟨[.no, .no, .no, .no, .no], [], [], [.no, .no, .no, .no, .no], .sh⟩ _) from
    have sc := sc_read_slips
    (zCons (Γ1 := [.sh, .no, .no, .no, .no]) (zIf (qNot (qVal (pOfC (cCall (S := (S__are_lines)) (ok__are_lines T) (hr.mono (by decide)) (by rfl) (by exact T.m__are_lines) (by exact T.k__are_lines) (by exact T.b__are_lines) (aCons (cV 0 rfl (by decide) (pv 0)) aNil) rfl rfl)))) (zOne zNever) zNil) (zCons (Γ1 := [.sh, (.ol .sh), .no, .no, .no]) (zSet (i := 1) sc.nd rfl (by first | exact .inl rfl | exact .inr rfl) (cNew (t := .sh)) (by decide) rfl) (zCons (Γ1 := [.sh, (.ol .sh), .no, .no, .no]) (zFor (Γ := [.sh, (.ol .sh), .no, .no, .no]) (Γ1 := [.sh, (.ol .sh), .sh, .sh, .no]) PassesOwn.never rfl (Pv.iEnum (by rfl) (by exact T.z_enumerate) (aCons (cV 0 rfl (by decide) (pv 0)) aNil)) (hTup rfl (hCons (hName (i := 2) sc.nd rfl (by first | exact .inl rfl | exact .inr rfl) (by decide)) (hCons (hName (i := 3) sc.nd rfl (by first | exact .inl rfl | exact .inr rfl) (by decide)) hNil))) (zWkn (n' := [.sh, (.ol .sh), .sh, .sh, .sh]) (zCons (Γ1 := [.sh, (.ol .sh), .sh, .sh, (.ol .sh)]) (zSet (i := 4) sc.nd rfl (by first | exact .inl rfl | exact .inr rfl) (cSplit (cV 3 rfl (by decide) (pv 3)) cStr) (by decide) rfl) (zFrz (Γ := [.sh, (.ol .sh), .sh, .sh, (.ol .sh)]) 4 rfl rfl (zCons (Γ1 := [.sh, (.ol .sh), .sh, .sh, .sh]) (zIf (qCmp (op_neD hr.units) (ne_s rfl rfl) (cCallB call_len' (len_s rfl) (by rfl) (by exact T.z_len) PySem.boot_len (aCons (cV 4 rfl (by decide) (pv 4)) aNil)) cInt (nomark _)) (zOne zNever) zNil) (zCons (Γ1 := [.sh, (.ol .sh), .sh, .sh, .sh]) (zIf (qCmp op_in_seq (in_s rfl) cStr (cV 4 rfl (by decide) (pv 4)) (by with_unfolding_all rfl)) (zOne zNever) zNil) (zOne (zDrop (mApp 1 (pe_bm PySem.F.plainAttrs_list PySem.F.slot_list_append PySem.F.type_list_append mt_append (pv 1) (pa_cons (mOfP (cTup (aCons (cIx ix_sh (cV 4 rfl (by decide) (pv 4)) cInt (by intro _ _; rfl)) (aCons (cIx ix_sh (cV 4 rfl (by decide) (pv 4)) cInt (by intro _ _; rfl)) aNil)))) pa_nil)) rfl rfl))))))) rfl) rfl) (zFrz (Γ := [.sh, (.ol .sh), .no, .no, .no]) 1 rfl rfl (zOne (zRet (cOfP (cCallT call_tuple_of (tup_s rfl) (by rfl) (by exact T.z_tuple) PyProof.Rows.boot_tuple (aCons (cV 1 rfl (by decide) (pv 1)) aNil))) rfl)))))))
theorem sc__law_name : FnScope ["_law_script", "_law_k", "_law_signs", "_law_size", "_law_j"] ["_law_script", "_law_k"] (defScope st__law_name) := ⟨rfl, rfl, rfl, by decide +kernel, rfl, by decide +kernel, by decide +kernel⟩
theorem ok__law_name (T : Tx K mg) : FnOk P w K mg base CX0 2 T.a__law_name T.d__law_name ["_law_script", "_law_k"] (spF K S__law_name) :=
  fn_val (nl := 3) (fo := false) T.f__law_name sc__law_name rfl rfl rfl rfl (fun h => nomatch h) (fun cdv A outer s H E hr => show PSs _ _ (tS _ [.sh, .sh, .no, .no, .no] ⟨[.no, .no, .no, .no, .no], [], [], [.no, .no, .no, .no, .no], .sh⟩ _) from
    have sc := sc__law_name
    (zCons (Γ1 := [.sh, .sh, .sh, .no, .no]) (zSet (i := 2) sc.nd rfl (by first | exact .inl rfl | exact .inr rfl) (cOfP cStr) (by decide) rfl) (zCons (Γ1 := [.sh, .sh, .sh, .sh, .no]) (zSet (i := 3) sc.nd rfl (by first | exact .inl rfl | exact .inr rfl) (cOfP (c2 op_add' add_s cInt (pOfC (cCall (S := (S__law_num)) (ok__law_num T) (hr.mono (by decide)) (by rfl) (by exact T.m__law_num) (by exact T.k__law_num) (by exact T.b__law_num) (aCons (cV 0 rfl (by decide) (pv 0)) (aCons (cV 1 rfl (by decide) (pv 1)) (aCons cInt aNil))) rfl rfl)))) (by decide) rfl) (zOne (zRet (cOfP (cJoin cStr (cFrz (cCmp0 (own := [("_law_j", 4)]) (Γ1 := [.sh, .sh, .sh, .sh, .sh]) rfl sc.nd (Pv.iRng1 (by rfl) (by exact T.z_range) (aCons (cV 3 rfl (by decide) (pv 3)) aNil)) (show BlkOk ["_law_script", "_law_k", "_law_signs", "_law_size", "_law_j"] (defScope st__law_name) _ _ from ⟨rfl, by decide +kernel, by decide +kernel, by decide +kernel, by decide +kernel⟩) (fun _ _ _ _ _ => (hName (i := 4) sc.nd rfl (by first | exact .inl rfl | exact .inr rfl) (by decide))) (fun _ _ _ _ _ => kNil) (fun _ _ _ _ _ => (cOfP (cIxS (cV 2 rfl (by decide) (pv 2)) (pOfC (cCall (S := (S__law_num)) (ok__law_num T) (hr.mono (by decide)) (by rfl) (by exact T.m__law_num) (by exact T.k__law_num) (by exact T.b__law_num) (aCons (cV 0 rfl (by decide) (pv 0)) (aCons (c2 op_add' add_s (c2 op_add' add_s (cV 1 rfl (by decide) (pv 1)) cInt) (cV 4 rfl (by decide) (pv 4))) (aCons cInt aNil))) rfl rfl)) (by intro _ _; rfl)))) rfl)))) rfl)))))
theorem sc__law_read : FnScope ["_law_rows_here", "_law_out", "_law_k", "_law_parts_here"] ["_law_rows_here"] (defScope st__law_read) := ⟨rfl, rfl, rfl, by decide +kernel, rfl, by decide +kernel, by decide +kernel⟩
theorem ok__law_read (T : Tx K mg) : FnOk P w K mg base CX0 2 T.a__law_read T.d__law_read ["_law_rows_here"] (spF K S__law_read) :=
  fn_val (nl := 3) (fo := false) T.f__law_read sc__law_read rfl rfl rfl rfl (fun h => nomatch h) (fun cdv A outer s H E hr => show PSs _ _ (tS _ [.sh, .no, .no, .no] ⟨[.no, .no, .no, .no], [], [], [.no, .no, .no, .no], .sh⟩ _) from
    have sc := sc__law_read
    (zCons (Γ1 := [.sh, (.ol .sh), .no, .no]) (zSet (i := 1) sc.nd rfl (by first | exact .inl rfl | exact .inr rfl) (cNew (t := .sh)) (by decide) rfl) (zCons (Γ1 := [.sh, (.ol .sh), .no, .no]) (zFor (Γ := [.sh, (.ol .sh), .no, .no]) (Γ1 := [.sh, (.ol .sh), .sh, .no]) PassesOwn.never rfl (Pv.iRng1 (by rfl) (by exact T.z_range) (aCons (cCallB call_len' (len_s rfl) (by rfl) (by exact T.z_len) PySem.boot_len (aCons (cV 0 rfl (by decide) (pv 0)) aNil)) aNil)) (hName (i := 2) sc.nd rfl (by first | exact .inl rfl | exact .inr rfl) (by decide)) (zWkn (n' := [.sh, (.ol .sh), .sh, .sh]) (zCons (Γ1 := [.sh, (.ol .sh), .sh, .sh]) (zSet (i := 3) sc.nd rfl (by first | exact .inl rfl | exact .inr rfl) (cCall (S := (S__law_parts)) (ok__law_parts T) (hr.mono (by decide)) (by rfl) (by exact T.m__law_parts) (by exact T.k__law_parts) (by exact T.b__law_parts) (aCons (cIx ix_sh (cV 0 rfl (by decide) (pv 0)) (cV 2 rfl (by decide) (pv 2)) (by intro _ _; rfl)) aNil) rfl rfl) (by decide) rfl) (zCons (Γ1 := [.sh, (.ol .sh), .sh, .sh]) (zIf (qCmp (op_neD hr.units) (ne_s rfl rfl) (cCallB call_len' (len_s rfl) (by rfl) (by exact T.z_len) PySem.boot_len (aCons (cV 3 rfl (by decide) (pv 3)) aNil)) cInt (nomark _)) (zOne (zRet (cOfP (cTup (aCons cStr (aCons (cV 2 rfl (by decide) (pv 2)) (aCons (cNeg cInt) aNil))))) rfl)) zNil) (zCons (Γ1 := [.sh, (.ol .sh), .sh, .sh]) (zIf (qCmp (op_eqD hr.units) (eq_s rfl rfl) (cIx ix_sh (cV 3 rfl (by decide) (pv 3)) cInt (by intro _ _; rfl)) cStr (nomark _)) (zOne (zRet (cOfP (cTup (aCons cStr (aCons (cV 2 rfl (by decide) (pv 2)) (aCons cInt aNil))))) rfl)) zNil) (zCons (Γ1 := [.sh, (.ol .sh), .sh, .sh]) (zIf (qCmp (op_eqD hr.units) (eq_s rfl rfl) (cIx ix_sh (cV 3 rfl (by decide) (pv 3)) cInt (by intro _ _; rfl)) cStr (nomark _)) (zOne (zRet (cOfP (cTup (aCons cStr (aCons (cV 2 rfl (by decide) (pv 2)) (aCons cInt aNil))))) rfl)) zNil) (zOne (zDrop (mApp 1 (pe_bm PySem.F.plainAttrs_list PySem.F.slot_list_append PySem.F.type_list_append mt_append (pv 1) (pa_cons (mOfP (cTup (aCons (cIx ix_sh (cV 3 rfl (by decide) (pv 3)) cInt (by intro _ _; rfl)) (aCons (cIx ix_sh (cV 3 rfl (by decide) (pv 3)) cInt (by intro _ _; rfl)) aNil)))) pa_nil)) rfl rfl))))))) rfl) rfl) (zFrz (Γ := [.sh, (.ol .sh), .no, .no]) 1 rfl rfl (zOne (zRet (cOfP (cTup (aCons cStr (aCons (cCallT call_tuple_of (tup_s rfl) (by rfl) (by exact T.z_tuple) PyProof.Rows.boot_tuple (aCons (cV 1 rfl (by decide) (pv 1)) aNil)) aNil)))) rfl))))))
theorem sc_slips_of : FnScope ["names", "heap", "size", "leaves", "first", "last"] ["names", "heap"] (defScope st_slips_of) := ⟨rfl, rfl, rfl, by decide +kernel, rfl, by decide +kernel, by decide +kernel⟩
theorem ok_slips_of (T : Tx K mg) : FnOk P w K mg base CX0 3 T.a_slips_of T.d_slips_of ["names", "heap"] (spF K S_slips_of) :=
  fn_val (nl := 4) (fo := false) T.f_slips_of sc_slips_of rfl rfl rfl rfl (fun h => nomatch h) (fun cdv A outer s H E hr => show PSs _ _ (tS _ [.sh, .sh, .no, .no, .no, .no] ⟨[.no, .no, .no, .no, .no, .no], [], [], [.no, .no, .no, .no, .no, .no], .sh⟩ _) from
    have sc := sc_slips_of
    (zCons (Γ1 := [.sh, .sh, .sh, .sh, .no, .no]) (zUnp (cV 1 rfl (by decide) (pv 1)) (hTup rfl (hCons (hName (i := 2) sc.nd rfl (by first | exact .inl rfl | exact .inr rfl) (by decide)) (hCons (hName (i := 3) sc.nd rfl (by first | exact .inl rfl | exact .inr rfl) (by decide)) hNil))) rfl) (zCons (Γ1 := [.sh, .sh, .sh, .sh, .no, .no]) (zIf (qOr (qNot (qVal (pOfC (cCall (S := (S__are_names)) (ok__are_names T) (hr.mono (by decide)) (by rfl) (by exact T.m__are_names) (by exact T.k__are_names) (by exact T.b__are_names) (aCons (cV 0 rfl (by decide) (pv 0)) aNil) rfl rfl)))) (qOr1 (qCmp (op_neD hr.units) (ne_s rfl rfl) (cCallB call_len' (len_s rfl) (by rfl) (by exact T.z_len) PySem.boot_len (aCons (cV 0 rfl (by decide) (pv 0)) aNil)) (cV 2 rfl (by decide) (pv 2)) (nomark _)))).pt (zOne zNever) zNil) (zOne (zRet (cOfP (cCallT call_tuple_of (tup_s rfl) (by rfl) (by exact T.z_tuple) PyProof.Rows.boot_tuple (aCons (cFrz (cCmp0 (own := [("first", 4), ("last", 5)]) (Γ1 := [.sh, .sh, .sh, .sh, .sh, .sh]) rfl sc.nd (iSeq (cV 3 rfl (by decide) (pv 3))) (show BlkOk ["names", "heap", "size", "leaves", "first", "last"] (defScope st_slips_of) _ _ from ⟨rfl, by decide +kernel, by decide +kernel, by decide +kernel, by decide +kernel⟩) (fun _ _ _ _ _ => (hTup rfl (hCons (hName (i := 4) sc.nd rfl (by first | exact .inl rfl | exact .inr rfl) (by decide)) (hCons (hName (i := 5) sc.nd rfl (by first | exact .inl rfl | exact .inr rfl) (by decide)) hNil)))) (fun _ _ _ _ _ => kNil) (fun _ _ _ _ _ => (cOfP (cTup (aCons (cIx ix_sh (cV 0 rfl (by decide) (pv 0)) (cV 4 rfl (by decide) (pv 4)) (by intro _ _; rfl)) (aCons (cIx ix_sh (cV 0 rfl (by decide) (pv 0)) (cV 5 rfl (by decide) (pv 5)) (by intro _ _; rfl)) aNil))))) rfl)) aNil))) rfl)))))
theorem rz_slips_of_NotUsable (T : Tx K mg) : FnOk P w K mg base (L2N.CX P w) 3 T.a_slips_of T.d_slips_of ["names", "heap"] (spR K T.C_NotUsable R_slips_of_NotUsable) :=
  fn_raiseN (Γx := [.no, .no, .no, .no, .no, .no]) (nl := 4) T.f_slips_of sc_slips_of rfl rfl rfl (fun cdv A outer s H E hr hp tk => show PSs _ _ (rS _ _ [.sh, .sh, .no, .no, .no, .no] [.no, .no, .no, .no, .no, .no] _ _) from
    have sc := sc_slips_of
    (rCons (Γ1 := [.sh, .sh, .sh, .sh, .no, .no]) (zUnp (cV 1 rfl (by decide) (pv 1)) (hTup rfl (hCons (hName (i := 2) sc.nd rfl (by first | exact .inl rfl | exact .inr rfl) (by decide)) (hCons (hName (i := 3) sc.nd rfl (by first | exact .inl rfl | exact .inr rfl) (by decide)) hNil))) rfl) (rOne (rIf (qOr (qNot (qVal (pOfC (cCall (S := (S__are_names)) (ok__are_names T) (hr.mono (by decide)) (by rfl) (by exact T.m__are_names) (by exact T.k__are_names) (by exact T.b__are_names) (aCons (cV 0 rfl (by decide) (pv 0)) aNil) rfl rfl)))) (qOr1 (qCmp (op_neD hr.units) (ne_s rfl rfl) (cCallB call_len' (len_s rfl) (by rfl) (by exact T.z_len) PySem.boot_len (aCons (cV 0 rfl (by decide) (pv 0)) aNil)) (cV 2 rfl (by decide) (pv 2)) (nomark _)))).pt (rOneW (Γ1 := [.sh, .sh, .sh, .sh, .no, .no]) (Γx := [.no, .no, .no, .no, .no, .no]) (rRaiseN (k := 1) rfl tk T.oex_NotUsable T.iC_NotUsable T.tI_NotUsable (ok_init_NotUsable T) (hr.mono (by decide)) T.bI_NotUsable (by rfl) (by exact T.gC_NotUsable) (by exact (aCons cStr (aCons (cNeg cInt) aNil)))) rfl) rNever))))
theorem sc__are_slips : FnScope ["thing", "slip"] ["thing"] (defScope st__are_slips) := ⟨rfl, rfl, rfl, by decide +kernel, rfl, by decide +kernel, by decide +kernel⟩
theorem ok__are_slips (T : Tx K mg) : FnOk P w K mg base CX0 3 T.a__are_slips T.d__are_slips ["thing"] (spF K S__are_slips) :=
  fn_val (nl := 1) (fo := false) T.f__are_slips sc__are_slips rfl rfl rfl rfl (fun h => nomatch h) (fun cdv A outer s H E hr => show PSs _ _ (tS _ [.sh, .no] ⟨[.no, .no], [], [], [.no, .no], .sh⟩ _) from
    have sc := sc__are_slips
    (zCons (Γ1 := [.sh, .no]) (zIf (qOr (qNot (qVal (cIsi isi_tuple (by rfl) (by exact T.z_isinstance) (pe_bltn (by rfl) (by exact T.z_tuple) PyProof.Rows.boot_tuple rfl) (cV 0 rfl (by decide) (pv 0))))) (qOr1 (qCmp (op_eqD hr.units) (eq_s rfl rfl) (cCallB call_len' (len_s rfl) (by rfl) (by exact T.z_len) PySem.boot_len (aCons (cV 0 rfl (by decide) (pv 0)) aNil)) cInt (nomark _)))).pt (zOne (zRet (cOfP cBl) rfl)) zNil) (zCons (Γ1 := [.sh, .no]) (zFor (Γ := [.sh, .no]) (Γ1 := [.sh, .sh]) PassesOwn.never rfl (iSeq (cV 0 rfl (by decide) (pv 0))) (hName (i := 1) sc.nd rfl (by first | exact .inl rfl | exact .inr rfl) (by decide)) (zWkn (n' := [.sh, .sh]) (zOne (zIf (qNot (qVal (pOfC (cCall (S := (S_is_slip)) (ok_is_slip T) (hr.mono (by decide)) (by rfl) (by exact T.m_is_slip) (by exact T.k_is_slip) (by exact T.b_is_slip) (aCons (cV 1 rfl (by decide) (pv 1)) aNil) rfl rfl)))) (zOne (zRet (cOfP cBl) rfl)) zNil)) rfl) rfl) (zOne (zRet (cOfP cBl) rfl)))))
theorem rz_read_slips_InvalidText (T : Tx K mg) : FnOk P w K mg base (L2N.CX P w) 3 T.a_read_slips T.d_read_slips ["lines"] (spR K T.C_InvalidText R_read_slips_InvalidText) :=
  fn_raiseN (Γx := [.no, .no, .no, .no, .no]) (nl := 4) T.f_read_slips sc_read_slips rfl rfl rfl (fun cdv A outer s H E hr hp tk => show PSs _ _ (rS _ _ [.sh, .no, .no, .no, .no] [.no, .no, .no, .no, .no] _ _) from
    have sc := sc_read_slips
    (rCons (Γ1 := [.sh, .no, .no, .no, .no]) (zIf (qNot (qVal (pOfC (cCall (S := (S__are_lines)) (ok__are_lines T) (hr.mono (by decide)) (by rfl) (by exact T.m__are_lines) (by exact T.k__are_lines) (by exact T.b__are_lines) (aCons (cV 0 rfl (by decide) (pv 0)) aNil) rfl rfl)))) (zOne zNever) zNil) (rCons (Γ1 := [.sh, (.ol .sh), .no, .no, .no]) (zSet (i := 1) sc.nd rfl (by first | exact .inl rfl | exact .inr rfl) (cNew (t := .sh)) (by decide) rfl) (rOne (rFor (Γ := [.sh, (.ol .sh), .no, .no, .no]) (Γ1 := [.sh, (.ol .sh), .sh, .sh, .no]) hp rfl (Pv.iEnum (by rfl) (by exact T.z_enumerate) (aCons (cV 0 rfl (by decide) (pv 0)) aNil)) (hTup rfl (hCons (hName (i := 2) sc.nd rfl (by first | exact .inl rfl | exact .inr rfl) (by decide)) (hCons (hName (i := 3) sc.nd rfl (by first | exact .inl rfl | exact .inr rfl) (by decide)) hNil))) (zWkn (n' := [.sh, (.ol .sh), .sh, .sh, (.ol .sh)]) (zCons (Γ1 := [.sh, (.ol .sh), .sh, .sh, (.ol .sh)]) (zSet (i := 4) sc.nd rfl (by first | exact .inl rfl | exact .inr rfl) (cSplit (cV 3 rfl (by decide) (pv 3)) cStr) (by decide) rfl) (zCons (Γ1 := [.sh, (.ol .sh), .sh, .sh, (.ol .sh)]) (zIf (qCmp (op_neD hr.units) (ne_s rfl rfl) (cCallB call_len' (len_s rfl) (by rfl) (by exact T.z_len) PySem.boot_len (aCons (cV 4 rfl (by decide) (pv 4)) aNil)) cInt (nomark _)) (zOne zNever) zNil) (zCons (Γ1 := [.sh, (.ol .sh), .sh, .sh, (.ol .sh)]) (zIf (qCmp op_in_seq (in_s rfl) cStr (cV 4 rfl (by decide) (pv 4)) (by with_unfolding_all rfl)) (zOne zNever) zNil) (zOne (zDrop (mApp 1 (pe_bm PySem.F.plainAttrs_list PySem.F.slot_list_append PySem.F.type_list_append mt_append (pv 1) (pa_cons (mOfP (cTup (aCons (cIx ix_ol (cV 4 rfl (by decide) (pv 4)) cInt (by intro _ _; rfl)) (aCons (cIx ix_ol (cV 4 rfl (by decide) (pv 4)) cInt (by intro _ _; rfl)) aNil)))) pa_nil)) rfl rfl)))))) rfl) (rCons (Γ1 := [.sh, (.ol .sh), .sh, .sh, (.ol .sh)]) (zSet (i := 4) sc.nd rfl (by first | exact .inl rfl | exact .inr rfl) (cSplit (cV 3 rfl (by decide) (pv 3)) cStr) (by decide) rfl) (rOr (rOne (rIf (qCmp (op_neD hr.units) (ne_s rfl rfl) (cCallB call_len' (len_s rfl) (by rfl) (by exact T.z_len) PySem.boot_len (aCons (cV 4 rfl (by decide) (pv 4)) aNil)) cInt (nomark _)) (rOneW (Γ1 := [.sh, (.ol .sh), .sh, .sh, (.ol .sh)]) (Γx := [.no, .no, .no, .no, .no]) (rRaiseN (k := 1) rfl tk T.oex_InvalidText T.iC_InvalidText T.tI_InvalidText (ok_init_InvalidText T) (hr.mono (by decide)) T.bI_InvalidText (by rfl) (by exact T.gC_InvalidText) (by exact (aCons (cV 2 rfl (by decide) (pv 2)) (aCons (cNeg cInt) aNil)))) rfl) rNever)) (rCons (Γ1 := [.sh, (.ol .sh), .sh, .sh, (.ol .sh)]) (zIf (qCmp (op_neD hr.units) (ne_s rfl rfl) (cCallB call_len' (len_s rfl) (by rfl) (by exact T.z_len) PySem.boot_len (aCons (cV 4 rfl (by decide) (pv 4)) aNil)) cInt (nomark _)) (zOne zNever) zNil) (rOne (rIf (qCmp op_in_seq (in_s rfl) cStr (cV 4 rfl (by decide) (pv 4)) (by with_unfolding_all rfl)) (rOneW (Γ1 := [.sh, (.ol .sh), .sh, .sh, (.ol .sh)]) (Γx := [.no, .no, .no, .no, .no]) (rRaiseN (k := 1) rfl tk T.oex_InvalidText T.iC_InvalidText T.tI_InvalidText (ok_init_InvalidText T) (hr.mono (by decide)) T.bI_InvalidText (by rfl) (by exact T.gC_InvalidText) (by exact (aCons (cV 2 rfl (by decide) (pv 2)) (aCons (cIndex (t := (.ol .sh)) rfl (pe_bm PySem.F.plainAttrs_list PySem.F.slot_list_index PySem.F.type_list_index mt_index (cV 4 rfl (by decide) (pv 4)) (pa_cons cStr pa_nil))) aNil)))) rfl) rNever))))))))))
theorem rz_read_slips_NotUsable (T : Tx K mg) : FnOk P w K mg base (L2N.CX P w) 3 T.a_read_slips T.d_read_slips ["lines"] (spR K T.C_NotUsable R_read_slips_NotUsable) :=
  fn_raiseN (Γx := [.no, .no, .no, .no, .no]) (nl := 4) T.f_read_slips sc_read_slips rfl rfl rfl (fun cdv A outer s H E hr hp tk => show PSs _ _ (rS _ _ [.sh, .no, .no, .no, .no] [.no, .no, .no, .no, .no] _ _) from
    have sc := sc_read_slips
    (rOne (rIf (qNot (qVal (pOfC (cCall (S := (S__are_lines)) (ok__are_lines T) (hr.mono (by decide)) (by rfl) (by exact T.m__are_lines) (by exact T.k__are_lines) (by exact T.b__are_lines) (aCons (cV 0 rfl (by decide) (pv 0)) aNil) rfl rfl)))) (rOneW (Γ1 := [.sh, .no, .no, .no, .no]) (Γx := [.no, .no, .no, .no, .no]) (rRaiseN (k := 1) rfl tk T.oex_NotUsable T.iC_NotUsable T.tI_NotUsable (ok_init_NotUsable T) (hr.mono (by decide)) T.bI_NotUsable (by rfl) (by exact T.gC_NotUsable) (by exact (aCons cStr (aCons (cNeg cInt) aNil)))) rfl) rNever)))
theorem sc__law_pairs : FnScope ["_law_script", "_law_pool", "_law_j", "_law_size", "_law_pairs_here", "_law_first"] ["_law_script"] (defScope st__law_pairs) := ⟨rfl, rfl, rfl, by decide +kernel, rfl, by decide +kernel, by decide +kernel⟩
theorem ok__law_pairs (T : Tx K mg) : FnOk P w K mg base CX0 3 T.a__law_pairs T.d__law_pairs ["_law_script"] (spF K S__law_pairs) :=
  fn_val (nl := 5) (fo := false) T.f__law_pairs sc__law_pairs rfl rfl rfl rfl (fun h => nomatch h) (fun cdv A outer s H E hr => show PSs _ _ (tS _ [.sh, .no, .no, .no, .no, .no] ⟨[.no, .no, .no, .no, .no, .no], [], [], [.no, .no, .no, .no, .no, .no], .sh⟩ _) from
    have sc := sc__law_pairs
    (zCons (Γ1 := [.sh, (.ol .sh), .no, .no, .no, .no]) (zSetCmp (own := [("_law_j", 2)]) (Γ1 := [.sh, .no, .sh, .no, .no, .no]) (i := 1) rfl sc.nd rfl rfl rfl (Pv.iRng1 (by rfl) (by exact T.z_range) (aCons (c2 op_add' add_s cInt (pOfC (cCall (S := (S__law_num)) (ok__law_num T) (hr.mono (by decide)) (by rfl) (by exact T.m__law_num) (by exact T.k__law_num) (by exact T.b__law_num) (aCons (cV 0 rfl (by decide) (pv 0)) (aCons cInt (aCons cInt aNil))) rfl rfl))) aNil)) (show BlkOk ["_law_script", "_law_pool", "_law_j", "_law_size", "_law_pairs_here", "_law_first"] (defScope st__law_pairs) _ _ from ⟨rfl, by decide +kernel, by decide +kernel, by decide +kernel, by decide +kernel⟩) (fun _ _ _ _ _ => (hName (i := 2) sc.nd rfl (by first | exact .inl rfl | exact .inr rfl) (by decide))) (fun _ _ _ _ _ => kNil) (fun _ _ _ _ _ => (cCall (S := (S__law_name)) (ok__law_name T) (hr.mono (by decide)) (by rfl) (by exact T.m__law_name) (by exact T.k__law_name) (by exact T.b__law_name) (aCons (cV 0 rfl (by decide) (pv 0)) (aCons (c2 op_add' add_s cInt (c2 op_mul' mul_s cInt (cV 2 rfl (by decide) (pv 2)))) aNil)) rfl rfl)) rfl (by decide) rfl) (zFrz (Γ := [.sh, (.ol .sh), .no, .no, .no, .no]) 1 rfl rfl (zCons (Γ1 := [.sh, .sh, .no, .sh, .no, .no]) (zSet (i := 3) sc.nd rfl (by first | exact .inl rfl | exact .inr rfl) (cOfP (c2 op_add' add_s cInt (pOfC (cCall (S := (S__law_num)) (ok__law_num T) (hr.mono (by decide)) (by rfl) (by exact T.m__law_num) (by exact T.k__law_num) (by exact T.b__law_num) (aCons (cV 0 rfl (by decide) (pv 0)) (aCons cInt (aCons cInt aNil))) rfl rfl)))) (by decide) rfl) (zCons (Γ1 := [.sh, .sh, .no, .sh, .no, .no]) (zIf (qCmp (op_eqD hr.units) (eq_s rfl rfl) (pOfC (cCall (S := (S__law_num)) (ok__law_num T) (hr.mono (by decide)) (by rfl) (by exact T.m__law_num) (by exact T.k__law_num) (by exact T.b__law_num) (aCons (cV 0 rfl (by decide) (pv 0)) (aCons cInt (aCons cInt aNil))) rfl rfl)) cInt (nomark _)) (zCons (Γ1 := [.sh, (.ol .sh), .no, .sh, .no, .no]) (zSetCmp (own := [("_law_j", 2)]) (Γ1 := [.sh, .sh, .sh, .sh, .no, .no]) (i := 1) rfl sc.nd rfl rfl rfl (Pv.iRng1 (by rfl) (by exact T.z_range) (aCons (c2 op_add' add_s cInt (pOfC (cCall (S := (S__law_num)) (ok__law_num T) (hr.mono (by decide)) (by rfl) (by exact T.m__law_num) (by exact T.k__law_num) (by exact T.b__law_num) (aCons (cV 0 rfl (by decide) (pv 0)) (aCons cInt (aCons cInt aNil))) rfl rfl))) aNil)) (show BlkOk ["_law_script", "_law_pool", "_law_j", "_law_size", "_law_pairs_here", "_law_first"] (defScope st__law_pairs) _ _ from ⟨rfl, by decide +kernel, by decide +kernel, by decide +kernel, by decide +kernel⟩) (fun _ _ _ _ _ => (hName (i := 2) sc.nd rfl (by first | exact .inl rfl | exact .inr rfl) (by decide))) (fun _ _ _ _ _ => kNil) (fun _ _ _ _ _ => (cOfP (c2 op_add' add_s cStr (cCallT call_str_int str_s (by rfl) (by exact T.z_str) PyProof.Rows.boot_str (aCons (cV 2 rfl (by decide) (pv 2)) aNil))))) rfl (by decide) rfl) (zCons (Γ1 := [.sh, (.ol .sh), .no, .sh, .no, .no]) (zSet (i := 3) sc.nd rfl (by first | exact .inl rfl | exact .inr rfl) (cOfP (c2 op_add' add_s cInt (pOfC (cCall (S := (S__law_num)) (ok__law_num T) (hr.mono (by decide)) (by rfl) (by exact T.m__law_num) (by exact T.k__law_num) (by exact T.b__law_num) (aCons (cV 0 rfl (by decide) (pv 0)) (aCons cInt (aCons cInt aNil))) rfl rfl)))) (by decide) rfl) (zFrz (Γ := [.sh, (.ol .sh), .no, .sh, .no, .no]) 1 rfl rfl zNil))) zNil) (zCons (Γ1 := [.sh, .sh, .no, .sh, (.ol .sh), .no]) (zSet (i := 4) sc.nd rfl (by first | exact .inl rfl | exact .inr rfl) (cNew (t := .sh)) (by decide) rfl) (zCons (Γ1 := [.sh, .sh, .no, .sh, (.ol .sh), .no]) (zFor (Γ := [.sh, .sh, .no, .sh, (.ol .sh), .no]) (Γ1 := [.sh, .sh, .sh, .sh, (.ol .sh), .no]) PassesOwn.never rfl (Pv.iRng1 (by rfl) (by exact T.z_range) (aCons (cV 3 rfl (by decide) (pv 3)) aNil)) (hName (i := 2) sc.nd rfl (by first | exact .inl rfl | exact .inr rfl) (by decide)) (zWkn (n' := [.sh, .sh, .sh, .sh, (.ol .sh), .sh]) (zCons (Γ1 := [.sh, .sh, .sh, .sh, (.ol .sh), .sh]) (zSet (i := 5) sc.nd rfl (by first | exact .inl rfl | exact .inr rfl) (cOfP (cIx ix_sh (cV 1 rfl (by decide) (pv 1)) (pOfC (cCall (S := (S__law_num)) (ok__law_num T) (hr.mono (by decide)) (by rfl) (by exact T.m__law_num) (by exact T.k__law_num) (by exact T.b__law_num) (aCons (cV 0 rfl (by decide) (pv 0)) (aCons (c2 op_add' add_s cInt (c2 op_mul' mul_s cInt (cV 2 rfl (by decide) (pv 2)))) (aCons (cCallB call_len' (len_s rfl) (by rfl) (by exact T.z_len) PySem.boot_len (aCons (cV 1 rfl (by decide) (pv 1)) aNil)) aNil))) rfl rfl)) (by intro _ _; rfl))) (by decide) rfl) (zOne (zDrop (mApp 4 (pe_bm PySem.F.plainAttrs_list PySem.F.slot_list_append PySem.F.type_list_append mt_append (pv 4) (pa_cons (mOfP (cTup (aCons (cV 5 rfl (by decide) (pv 5)) (aCons (cIx ix_sh (cV 1 rfl (by decide) (pv 1)) (pOfC (cCall (S := (S__law_num)) (ok__law_num T) (hr.mono (by decide)) (by rfl) (by exact T.m__law_num) (by exact T.k__law_num) (by exact T.b__law_num) (aCons (cV 0 rfl (by decide) (pv 0)) (aCons (c2 op_add' add_s cInt (c2 op_mul' mul_s cInt (cV 2 rfl (by decide) (pv 2)))) (aCons (cCallB call_len' (len_s rfl) (by rfl) (by exact T.z_len) PySem.boot_len (aCons (cV 1 rfl (by decide) (pv 1)) aNil)) aNil))) rfl rfl)) (by intro _ _; rfl)) aNil)))) pa_nil)) rfl rfl)))) rfl) rfl) (zFrz (Γ := [.sh, .sh, .no, .sh, (.ol .sh), .no]) 4 rfl rfl (zOne (zRet (cOfP (cV 4 rfl (by decide) (pv 4))) rfl))))))))))
theorem sc_heap_of : FnScope ["slips", "words", "leaves", "first", "last"] ["slips"] (defScope st_heap_of) := ⟨rfl, rfl, rfl, by decide +kernel, rfl, by decide +kernel, by decide +kernel⟩
theorem ok_heap_of (T : Tx K mg) : FnOk P w K mg base CX0 4 T.a_heap_of T.d_heap_of ["slips"] (spF K S_heap_of) :=
  fn_val (nl := 4) (fo := false) T.f_heap_of sc_heap_of rfl rfl rfl rfl (fun h => nomatch h) (fun cdv A outer s H E hr => show PSs _ _ (tS _ [.sh, .no, .no, .no, .no] ⟨[.no, .no, .no, .no, .no], [], [], [.no, .no, .no, .no, .no], .sh⟩ _) from
    have sc := sc_heap_of
    (zCons (Γ1 := [.sh, .no, .no, .no, .no]) (zIf (qNot (qVal (pOfC (cCall (S := (S__are_slips)) (ok__are_slips T) (hr.mono (by decide)) (by rfl) (by exact T.m__are_slips) (by exact T.k__are_slips) (by exact T.b__are_slips) (aCons (cV 0 rfl (by decide) (pv 0)) aNil) rfl rfl)))) (zOne zNever) zNil) (zCons (Γ1 := [.sh, (.dk .sh), .no, .no, .no]) (zSet (i := 1) sc.nd rfl (by first | exact .inl rfl | exact .inr rfl) cDNewK (by decide) rfl) (zCons (Γ1 := [.sh, (.dk .sh), (.ol .sh), .no, .no]) (zSet (i := 2) sc.nd rfl (by first | exact .inl rfl | exact .inr rfl) (cNew (t := .sh)) (by decide) rfl) (zCons (Γ1 := [.sh, (.dk .sh), (.ol .sh), .no, .no]) (zFor (Γ := [.sh, (.dk .sh), (.ol .sh), .no, .no]) (Γ1 := [.sh, (.dk .sh), (.ol .sh), .sh, .sh]) PassesOwn.never rfl (iSeq (cV 0 rfl (by decide) (pv 0))) (hTup rfl (hCons (hName (i := 3) sc.nd rfl (by first | exact .inl rfl | exact .inr rfl) (by decide)) (hCons (hName (i := 4) sc.nd rfl (by first | exact .inl rfl | exact .inr rfl) (by decide)) hNil))) (zWkn (n' := [.sh, (.dk .sh), (.ol .sh), .sh, .sh]) (zCons (Γ1 := [.sh, (.dk .sh), (.ol .sh), .sh, .sh]) (zIf (qCmp (op_dnotin (hu_of hr)) (dnotin_s rfl) (cV 3 rfl (by decide) (pv 3)) (cV 1 rfl (by decide) (pv 1)) (by with_unfolding_all rfl)) (zOne (zPutK 1 (ps_dput (hu_of hr) (pv 1) (cV 3 rfl (by decide) (pv 3)) (mOfP (cCallB cr_lenR (lenR_s rfl) (by rfl) (by exact T.z_len) PySem.boot_len (aCons (cV 1 rfl (by decide) (pv 1)) aNil))) rfl) rfl)) zNil) (zCons (Γ1 := [.sh, (.dk .sh), (.ol .sh), .sh, .sh]) (zIf (qCmp (op_dnotin (hu_of hr)) (dnotin_s rfl) (cV 4 rfl (by decide) (pv 4)) (cV 1 rfl (by decide) (pv 1)) (by with_unfolding_all rfl)) (zOne (zPutK 1 (ps_dput (hu_of hr) (pv 1) (cV 4 rfl (by decide) (pv 4)) (mOfP (cCallB cr_lenR (lenR_s rfl) (by rfl) (by exact T.z_len) PySem.boot_len (aCons (cV 1 rfl (by decide) (pv 1)) aNil))) rfl) rfl)) zNil) (zOne (zDrop (mApp 2 (pe_bm PySem.F.plainAttrs_list PySem.F.slot_list_append PySem.F.type_list_append mt_append (pv 2) (pa_cons (mOfP (cTup (aCons (cDGet (hu_of hr) rfl (cV 1 rfl (by decide) (pv 1)) (cV 3 rfl (by decide) (pv 3)) (by intro _ _; rfl)) (aCons (cDGet (hu_of hr) rfl (cV 1 rfl (by decide) (pv 1)) (cV 4 rfl (by decide) (pv 4)) (by intro _ _; rfl)) aNil)))) pa_nil)) rfl rfl))))) rfl) rfl) (zFrzDK (Γ := [.sh, (.dk .sh), (.ol .sh), .no, .no]) 1 rfl rfl (zFrz (Γ := [.sh, .sh, (.ol .sh), .no, .no]) 2 rfl rfl (zOne (zRet (cOfP (cTup (aCons (cCallT call_tuple_of (tup_s rfl) (by rfl) (by exact T.z_tuple) PyProof.Rows.boot_tuple (aCons (cFrz (cLstD rfl (by rfl) (by exact T.z_list) rfl (aCons (cV 1 rfl (by decide) (pv 1)) aNil))) aNil)) (aCons (cTup (aCons (cCallB cr_lenR (lenR_s rfl) (by rfl) (by exact T.z_len) PySem.boot_len (aCons (cV 1 rfl (by decide) (pv 1)) aNil)) (aCons (cCallT call_tuple_of (tup_s rfl) (by rfl) (by exact T.z_tuple) PyProof.Rows.boot_tuple (aCons (cV 2 rfl (by decide) (pv 2)) aNil)) aNil))) aNil)))) rfl)))))))))
theorem rz_heap_of_NotUsable (T : Tx K mg) : FnOk P w K mg base (L2N.CX P w) 4 T.a_heap_of T.d_heap_of ["slips"] (spR K T.C_NotUsable R_heap_of_NotUsable) :=
  fn_raiseN (Γx := [.no, .no, .no, .no, .no]) (nl := 4) T.f_heap_of sc_heap_of rfl rfl rfl (fun cdv A outer s H E hr hp tk => show PSs _ _ (rS _ _ [.sh, .no, .no, .no, .no] [.no, .no, .no, .no, .no] _ _) from
    have sc := sc_heap_of
    (rOne (rIf (qNot (qVal (pOfC (cCall (S := (S__are_slips)) (ok__are_slips T) (hr.mono (by decide)) (by rfl) (by exact T.m__are_slips) (by exact T.k__are_slips) (by exact T.b__are_slips) (aCons (cV 0 rfl (by decide) (pv 0)) aNil) rfl rfl)))) (rOneW (Γ1 := [.sh, .no, .no, .no, .no]) (Γx := [.no, .no, .no, .no, .no]) (rRaiseN (k := 1) rfl tk T.oex_NotUsable T.iC_NotUsable T.tI_NotUsable (ok_init_NotUsable T) (hr.mono (by decide)) T.bI_NotUsable (by rfl) (by exact T.gC_NotUsable) (by exact (aCons cStr (aCons (cNeg cInt) aNil)))) rfl) rNever)))
theorem sc_slip_lines : FnScope ["slips", "first", "last"] ["slips"] (defScope st_slip_lines) := ⟨rfl, rfl, rfl, by decide +kernel, rfl, by decide +kernel, by decide +kernel⟩
theorem ok_slip_lines (T : Tx K mg) : FnOk P w K mg base CX0 4 T.a_slip_lines T.d_slip_lines ["slips"] (spF K S_slip_lines) :=
  fn_val (nl := 2) (fo := false) T.f_slip_lines sc_slip_lines rfl rfl rfl rfl (fun h => nomatch h) (fun cdv A outer s H E hr => show PSs _ _ (tS _ [.sh, .no, .no] ⟨[.no, .no, .no], [], [], [.no, .no, .no], .sh⟩ _) from
    have sc := sc_slip_lines
    (zCons (Γ1 := [.sh, .no, .no]) (zIf (qNot (qVal (pOfC (cCall (S := (S__are_slips)) (ok__are_slips T) (hr.mono (by decide)) (by rfl) (by exact T.m__are_slips) (by exact T.k__are_slips) (by exact T.b__are_slips) (aCons (cV 0 rfl (by decide) (pv 0)) aNil) rfl rfl)))) (zOne zNever) zNil) (zOne (zRet (cOfP (cCallT call_tuple_of (tup_s rfl) (by rfl) (by exact T.z_tuple) PyProof.Rows.boot_tuple (aCons (cFrz (cCmp0 (own := [("first", 1), ("last", 2)]) (Γ1 := [.sh, .sh, .sh]) rfl sc.nd (iSeq (cV 0 rfl (by decide) (pv 0))) (show BlkOk ["slips", "first", "last"] (defScope st_slip_lines) _ _ from ⟨rfl, by decide +kernel, by decide +kernel, by decide +kernel, by decide +kernel⟩) (fun _ _ _ _ _ => (hTup rfl (hCons (hName (i := 1) sc.nd rfl (by first | exact .inl rfl | exact .inr rfl) (by decide)) (hCons (hName (i := 2) sc.nd rfl (by first | exact .inl rfl | exact .inr rfl) (by decide)) hNil)))) (fun _ _ _ _ _ => kNil) (fun _ _ _ _ _ => (cOfP (cFs (jCons (cFmt (cV 1 rfl (by decide) (pv 1))) (jCons cStr (jCons (cFmt (cV 2 rfl (by decide) (pv 2))) jNil)))))) rfl)) aNil))) rfl))))
theorem rz_slip_lines_NotUsable (T : Tx K mg) : FnOk P w K mg base (L2N.CX P w) 4 T.a_slip_lines T.d_slip_lines ["slips"] (spR K T.C_NotUsable R_slip_lines_NotUsable) :=
  fn_raiseN (Γx := [.no, .no, .no]) (nl := 2) T.f_slip_lines sc_slip_lines rfl rfl rfl (fun cdv A outer s H E hr hp tk => show PSs _ _ (rS _ _ [.sh, .no, .no] [.no, .no, .no] _ _) from
    have sc := sc_slip_lines
    (rOne (rIf (qNot (qVal (pOfC (cCall (S := (S__are_slips)) (ok__are_slips T) (hr.mono (by decide)) (by rfl) (by exact T.m__are_slips) (by exact T.k__are_slips) (by exact T.b__are_slips) (aCons (cV 0 rfl (by decide) (pv 0)) aNil) rfl rfl)))) (rOneW (Γ1 := [.sh, .no, .no]) (Γx := [.no, .no, .no]) (rRaiseN (k := 1) rfl tk T.oex_NotUsable T.iC_NotUsable T.tI_NotUsable (ok_init_NotUsable T) (hr.mono (by decide)) T.bI_NotUsable (by rfl) (by exact T.gC_NotUsable) (by exact (aCons cStr (aCons (cNeg cInt) aNil)))) rfl) rNever)))
theorem sc__law_same : FnScope ["_law_got", "_law_due", "_law_k"] ["_law_got", "_law_due"] (defScope st__law_same) := ⟨rfl, rfl, rfl, by decide +kernel, rfl, by decide +kernel, by decide +kernel⟩
theorem ok__law_same (T : Tx K mg) : ∀ k : Nat, FnOk P w K mg base CX0 k T.a__law_same T.d__law_same ["_law_got", "_law_due"] (spF K (S__law_same k))
  | 0 => fn_zero rfl
  | k + 1 => have ih := ok__law_same T k
    fn_val (nl := 1) (fo := false) T.f__law_same sc__law_same rfl rfl rfl rfl (fun h => nomatch h) (fun cdv A outer s H E hr => show PSs _ _ (tS _ [.sh, .sh, .no] ⟨[.no, .no, .no], [], [], [.no, .no, .no], .sh⟩ _) from
    have sc := sc__law_same
    (zCons (Γ1 := [.sh, .sh, .no]) (zIf (qCmp op_isN isN_s (cV 1 rfl (by decide) (pv 1)) cNon (by with_unfolding_all rfl)) (zOne (zRet (cOfP (cCmp op_isN isN_s (cV 0 rfl (by decide) (pv 0)) cNon (by with_unfolding_all rfl))) rfl)) zNil) (zCons (Γ1 := [.sh, .sh, .no]) (zIf (qCmp op_isBA isBA_s (cV 1 rfl (by decide) (pv 1)) cBl (by with_unfolding_all rfl)) (zOne (zRet (cOfP (cCmp op_isBA isBA_s (cV 0 rfl (by decide) (pv 0)) cBl (by with_unfolding_all rfl))) rfl)) zNil) (zCons (Γ1 := [.sh, .sh, .no]) (zIf (qCmp op_isBA isBA_s (cV 1 rfl (by decide) (pv 1)) cBl (by with_unfolding_all rfl)) (zOne (zRet (cOfP (cCmp op_isBA isBA_s (cV 0 rfl (by decide) (pv 0)) cBl (by with_unfolding_all rfl))) rfl)) zNil) (zCons (Γ1 := [.sh, .sh, .no]) (zIf (qVal (cIsi isi_str (by rfl) (by exact T.z_isinstance) (pe_bltn (by rfl) (by exact T.z_str) PyProof.Rows.boot_str rfl) (cV 1 rfl (by decide) (pv 1)))) (zOne (zRet (cOfP (vAnd (cIsi isi_str (by rfl) (by exact T.z_isinstance) (pe_bltn (by rfl) (by exact T.z_str) PyProof.Rows.boot_str rfl) (cV 0 rfl (by decide) (pv 0))) (vOne (cCmp (op_eqD hr.units) (eq_s rfl rfl) (cV 0 rfl (by decide) (pv 0)) (cV 1 rfl (by decide) (pv 1)) (nomark _))))) rfl)) zNil) (zCons (Γ1 := [.sh, .sh, .no]) (zIf (qVal (cIsi isi_tuple (by rfl) (by exact T.z_isinstance) (pe_bltn (by rfl) (by exact T.z_tuple) PyProof.Rows.boot_tuple rfl) (cV 1 rfl (by decide) (pv 1)))) (zCons (Γ1 := [.sh, .sh, .no]) (zIf (qOr (qNot (qVal (cIsi isi_tuple (by rfl) (by exact T.z_isinstance) (pe_bltn (by rfl) (by exact T.z_tuple) PyProof.Rows.boot_tuple rfl) (cV 0 rfl (by decide) (pv 0))))) (qOr1 (qCmp (op_neD hr.units) (ne_s rfl rfl) (cCallB call_len' (len_s rfl) (by rfl) (by exact T.z_len) PySem.boot_len (aCons (cV 0 rfl (by decide) (pv 0)) aNil)) (cCallB call_len' (len_s rfl) (by rfl) (by exact T.z_len) PySem.boot_len (aCons (cV 1 rfl (by decide) (pv 1)) aNil)) (nomark _)))).pt (zOne (zRet (cOfP cBl) rfl)) zNil) (zCons (Γ1 := [.sh, .sh, .no]) (zFor (Γ := [.sh, .sh, .no]) (Γ1 := [.sh, .sh, .sh]) PassesOwn.never rfl (Pv.iRng1 (by rfl) (by exact T.z_range) (aCons (cCallB call_len' (len_s rfl) (by rfl) (by exact T.z_len) PySem.boot_len (aCons (cV 1 rfl (by decide) (pv 1)) aNil)) aNil)) (hName (i := 2) sc.nd rfl (by first | exact .inl rfl | exact .inr rfl) (by decide)) (zWkn (n' := [.sh, .sh, .sh]) (zOne (zIf (qNot (qVal (pOfC (cCall (S := (S__law_same k)) ih hr (by rfl) (by exact T.m__law_same) (by exact T.k__law_same) (by exact T.b__law_same) (aCons (cIx ix_sh (cV 0 rfl (by decide) (pv 0)) (cV 2 rfl (by decide) (pv 2)) (by intro _ _; rfl)) (aCons (cIx ix_sh (cV 1 rfl (by decide) (pv 1)) (cV 2 rfl (by decide) (pv 2)) (by intro _ _; rfl)) aNil)) rfl rfl)))) (zOne (zRet (cOfP cBl) rfl)) zNil)) rfl) rfl) (zOne (zRet (cOfP cBl) rfl)))) zNil) (zOne (zRet (cOfP (vAnd (cIsi isi_int (by rfl) (by exact T.z_isinstance) (pe_bltn (by rfl) (by exact T.z_int) PyProof.Rows.boot_int rfl) (cV 0 rfl (by decide) (pv 0))) (vAnd (vNot (cIsi isi_bool (by rfl) (by exact T.z_isinstance) (pe_bltn (by rfl) (by exact T.z_bool) PyProof.Rows.boot_bool rfl) (cV 0 rfl (by decide) (pv 0)))) (vOne (cCmp (op_eqD hr.units) (eq_s rfl rfl) (cV 0 rfl (by decide) (pv 0)) (cV 1 rfl (by decide) (pv 1)) (nomark _)))))) rfl))))))))
theorem okh__law_same (T : Tx K mg) : ∀ k : Nat, L2H.FnH P w K mg base CX0 k T.a__law_same T.d__law_same ["_law_got", "_law_due"] (spF K (S__law_same k))
  | 0 => fnH_zero rfl rfl
  | k + 1 => have ih := okh__law_same T k
    fn_valH (nl := 1) (fo := false) T.f__law_same sc__law_same rfl rfl rfl rfl (fun h => nomatch h) (fun cdv A outer s H E p hc hr => show PSs _ _ (tS _ [.sh, .sh, .no] ⟨[.no, .no, .no], [], [], [.no, .no, .no], .sh⟩ _) from
    have sc := sc__law_same
    (zCons (Γ1 := [.sh, .sh, .no]) (zIf (qCmp op_isN isN_s (cV 1 rfl (by decide) (pv 1)) cNon (by with_unfolding_all rfl)) (zOne (zRet (cOfP (cCmp op_isN isN_s (cV 0 rfl (by decide) (pv 0)) cNon (by with_unfolding_all rfl))) rfl)) zNil) (zCons (Γ1 := [.sh, .sh, .no]) (zIf (qCmp op_isBA isBA_s (cV 1 rfl (by decide) (pv 1)) cBl (by with_unfolding_all rfl)) (zOne (zRet (cOfP (cCmp op_isBA isBA_s (cV 0 rfl (by decide) (pv 0)) cBl (by with_unfolding_all rfl))) rfl)) zNil) (zCons (Γ1 := [.sh, .sh, .no]) (zIf (qCmp op_isBA isBA_s (cV 1 rfl (by decide) (pv 1)) cBl (by with_unfolding_all rfl)) (zOne (zRet (cOfP (cCmp op_isBA isBA_s (cV 0 rfl (by decide) (pv 0)) cBl (by with_unfolding_all rfl))) rfl)) zNil) (zCons (Γ1 := [.sh, .sh, .no]) (zIf (qVal (cIsi isi_str (by rfl) (by exact T.z_isinstance) (pe_bltn (by rfl) (by exact T.z_str) PyProof.Rows.boot_str rfl) (cV 1 rfl (by decide) (pv 1)))) (zOne (zRet (cOfP (vAnd (cIsi isi_str (by rfl) (by exact T.z_isinstance) (pe_bltn (by rfl) (by exact T.z_str) PyProof.Rows.boot_str rfl) (cV 0 rfl (by decide) (pv 0))) (vOne (cCmp (op_eqD hr.units) (eq_s rfl rfl) (cV 0 rfl (by decide) (pv 0)) (cV 1 rfl (by decide) (pv 1)) (nomark _))))) rfl)) zNil) (zCons (Γ1 := [.sh, .sh, .no]) (zIf (qVal (cIsi isi_tuple (by rfl) (by exact T.z_isinstance) (pe_bltn (by rfl) (by exact T.z_tuple) PyProof.Rows.boot_tuple rfl) (cV 1 rfl (by decide) (pv 1)))) (zCons (Γ1 := [.sh, .sh, .no]) (zIf (qOr (qNot (qVal (cIsi isi_tuple (by rfl) (by exact T.z_isinstance) (pe_bltn (by rfl) (by exact T.z_tuple) PyProof.Rows.boot_tuple rfl) (cV 0 rfl (by decide) (pv 0))))) (qOr1 (qCmp (op_neD hr.units) (ne_s rfl rfl) (cCallB call_len' (len_s rfl) (by rfl) (by exact T.z_len) PySem.boot_len (aCons (cV 0 rfl (by decide) (pv 0)) aNil)) (cCallB call_len' (len_s rfl) (by rfl) (by exact T.z_len) PySem.boot_len (aCons (cV 1 rfl (by decide) (pv 1)) aNil)) (nomark _)))).pt (zOne (zRet (cOfP cBl) rfl)) zNil) (zCons (Γ1 := [.sh, .sh, .no]) (zForRH (Γ := [.sh, .sh, .no]) (Γ1 := [.sh, .sh, .sh]) PassesOwn.never hc (by rfl) (by exact T.z_range) (aCons (cCallB call_len' (len_s rfl) (by rfl) (by exact T.z_len) PySem.boot_len (aCons (cV 1 rfl (by decide) (pv 1)) aNil)) aNil) (hName (i := 2) sc.nd rfl (by first | exact .inl rfl | exact .inr rfl) (by decide)) (zWkn (n' := [.sh, .sh, .sh]) (zOne (zIf (qNot (qVal (pOfC (cCallH hc (S := (S__law_same k)) ih hr (by rfl) (by exact T.m__law_same) (by exact T.k__law_same) (by exact T.b__law_same) (aCons (cIx ix_sh (cV 0 rfl (by decide) (pv 0)) (cV 2 rfl (by decide) (pv 2)) (by intro _ _; rfl)) (aCons (cIx ix_sh (cV 1 rfl (by decide) (pv 1)) (cV 2 rfl (by decide) (pv 2)) (by intro _ _; rfl)) aNil)) rfl rfl)))) (zOne (zRet (cOfP cBl) rfl)) zNil)) rfl) rfl) (zOne (zRet (cOfP cBl) rfl)))) zNil) (zOne (zRet (cOfP (vAnd (cIsi isi_int (by rfl) (by exact T.z_isinstance) (pe_bltn (by rfl) (by exact T.z_int) PyProof.Rows.boot_int rfl) (cV 0 rfl (by decide) (pv 0))) (vAnd (vNot (cIsi isi_bool (by rfl) (by exact T.z_isinstance) (pe_bltn (by rfl) (by exact T.z_bool) PyProof.Rows.boot_bool rfl) (cV 0 rfl (by decide) (pv 0)))) (vOne (cCmp (op_eqD hr.units) (eq_s rfl rfl) (cV 0 rfl (by decide) (pv 0)) (cV 1 rfl (by decide) (pv 1)) (nomark _)))))) rfl))))))))
theorem sc__law_refused : FnScope ["_law_which", "_law_first", "_law_second", "_law_told", "e"] ["_law_which", "_law_first", "_law_second", "_law_told"] (defScope st__law_refused) := ⟨rfl, rfl, rfl, by decide +kernel, rfl, by decide +kernel, by decide +kernel⟩
theorem ok__law_refused (T : Tx K mg) : FnOk P w K mg base CX0 7 T.a__law_refused T.d__law_refused ["_law_which", "_law_first", "_law_second", "_law_told"] (spF K S__law_refused) :=
  fn_val (nl := 1) (fo := false) T.f__law_refused sc__law_refused rfl rfl rfl rfl (fun h => nomatch h) (fun cdv A outer s H E hr => show PSs _ _ (tS _ [.sh, .sh, .sh, .sh, .no] ⟨[.no, .no, .no, .no, .no], [], [], [.no, .no, .no, .no, .no], .sh⟩ _) from
    have sc := sc__law_refused
    (zCons (Γ1 := [.sh, .sh, .sh, .sh, .no]) (zTryAsN (Γ := [.sh, .sh, .sh, .sh, .no]) (Γ1 := [.sh, .sh, .sh, .sh, .no]) (i := 4) rfl rfl sc.nd rfl rfl ⟨rfl, by decide, Or.inl T.gC_NotUsable⟩ T.te_NotUsable (by decide) rfl rfl (fun pn xe hp => (zOne (zIf (qCmp (op_eqD hr.units) (eq_s rfl rfl) (cV 0 rfl (by decide) (pv 0)) cInt (nomark _)) (zOne (zDrop (mOfP (pOfC (cCall (S := (S_heap_of)) (ok_heap_of T) (hr.mono (by decide)) (by rfl) (by exact T.m_heap_of) (by exact T.k_heap_of) (by exact T.b_heap_of) (aCons (cV 1 rfl (by decide) (pv 1)) aNil) rfl rfl))))) (zOne (zIf (qCmp (op_eqD hr.units) (eq_s rfl rfl) (cV 0 rfl (by decide) (pv 0)) cInt (nomark _)) (zOne (zDrop (mOfP (pOfC (cCall (S := (S_slip_lines)) (ok_slip_lines T) (hr.mono (by decide)) (by rfl) (by exact T.m_slip_lines) (by exact T.k_slip_lines) (by exact T.b_slip_lines) (aCons (cV 1 rfl (by decide) (pv 1)) aNil) rfl rfl))))) (zOne (zIf (qCmp (op_eqD hr.units) (eq_s rfl rfl) (cV 0 rfl (by decide) (pv 0)) cInt (nomark _)) (zOne (zDrop (mOfP (pOfC (cCall (S := (S_read_slips)) (ok_read_slips T) (hr.mono (by decide)) (by rfl) (by exact T.m_read_slips) (by exact T.k_read_slips) (by exact T.b_read_slips) (aCons (cV 1 rfl (by decide) (pv 1)) aNil) rfl rfl))))) (zOne (zDrop (mOfP (pOfC (cCall (S := (S_slips_of)) (ok_slips_of T) (hr.mono (by decide)) (by rfl) (by exact T.m_slips_of) (by exact T.k_slips_of) (by exact T.b_slips_of) (aCons (cV 1 rfl (by decide) (pv 1)) (aCons (cV 2 rfl (by decide) (pv 2)) aNil)) rfl rfl)))))))))))) (fun W pn xe tk hp => (rOne (rIf (qCmp (op_eqD hr.units) (eq_s rfl rfl) (cV 0 rfl (by decide) (pv 0)) cInt (nomark _)) (rOneW (Γ1 := [.sh, .sh, .sh, .sh, .no]) (Γx := [.sh, .sh, .sh, .sh, .no]) (rExpr (S := R_heap_of_NotUsable) rfl (pe_callRN (S := R_heap_of_NotUsable) (rz_heap_of_NotUsable T) (hr.mono (by decide)) (by rfl) (by exact T.m_heap_of) (by exact T.k_heap_of) (by exact T.b_heap_of) tk (by exact (aCons (cV 1 rfl (by decide) (pv 1)) aNil)))) rfl) (rOne (rIf (qCmp (op_eqD hr.units) (eq_s rfl rfl) (cV 0 rfl (by decide) (pv 0)) cInt (nomark _)) (rOneW (Γ1 := [.sh, .sh, .sh, .sh, .no]) (Γx := [.sh, .sh, .sh, .sh, .no]) (rExpr (S := R_slip_lines_NotUsable) rfl (pe_callRN (S := R_slip_lines_NotUsable) (rz_slip_lines_NotUsable T) (hr.mono (by decide)) (by rfl) (by exact T.m_slip_lines) (by exact T.k_slip_lines) (by exact T.b_slip_lines) tk (by exact (aCons (cV 1 rfl (by decide) (pv 1)) aNil)))) rfl) (rOne (rIf (qCmp (op_eqD hr.units) (eq_s rfl rfl) (cV 0 rfl (by decide) (pv 0)) cInt (nomark _)) (rOneW (Γ1 := [.sh, .sh, .sh, .sh, .no]) (Γx := [.sh, .sh, .sh, .sh, .no]) (rExpr (S := R_read_slips_NotUsable) rfl (pe_callRN (S := R_read_slips_NotUsable) (rz_read_slips_NotUsable T) (hr.mono (by decide)) (by rfl) (by exact T.m_read_slips) (by exact T.k_read_slips) (by exact T.b_read_slips) tk (by exact (aCons (cV 1 rfl (by decide) (pv 1)) aNil)))) rfl) (rOneW (Γ1 := [.sh, .sh, .sh, .sh, .no]) (Γx := [.sh, .sh, .sh, .sh, .no]) (rExpr (S := R_slips_of_NotUsable) rfl (pe_callRN (S := R_slips_of_NotUsable) (rz_slips_of_NotUsable T) (hr.mono (by decide)) (by rfl) (by exact T.m_slips_of) (by exact T.k_slips_of) (by exact T.b_slips_of) tk (by exact (aCons (cV 1 rfl (by decide) (pv 1)) (aCons (cV 2 rfl (by decide) (pv 2)) aNil))))) rfl)))))))) (fun a dd oe pn hz => (show PSs _ _ (tS _ [.sh, .sh, .sh, .sh, (.ex a dd)] ⟨[.sh, .sh, .sh, .sh, .no], _, _, _, _⟩ _) from (zOne (zRet (cOfP (vAnd (cIsN T.ec_NotUsable hz (by rfl) (by exact T.z_isinstance) (pe_glob (v := .ref T.B_BookError) (by rfl) (by exact T.gB_BookError) rfl) (fun _ h => h) T.is_NotUsable_BookError (pv 4) rfl) (vAnd (cIsN T.ec_NotUsable hz (by rfl) (by exact T.z_isinstance) (pe_bltn (v := .ty "ValueError") (by rfl) (by exact T.z_ValueError) PyProof.Rows.Boot.«ValueError» rfl) (fun _ h => h) T.is_NotUsable_ValueError (pv 4) rfl) (vOne (pOfC (cCallH hz.hot (S := (S__law_same 6)) (okh__law_same T 6) (L2H.roomH_mark (hr.mono (by decide)) _) (by rfl) (by exact T.m__law_same) (by exact T.k__law_same) (by exact T.b__law_same) (aCons (cTup (aCons (cXf T.xf_NotUsable T.n_NotUsable_word hz.c (pv 4) rfl) (aCons (cXf T.xf_NotUsable T.n_NotUsable_at hz.c (pv 4) rfl) aNil))) (aCons (cTup (aCons (cV 3 rfl (by decide) (pv 3)) (aCons (cNeg cInt) aNil))) aNil)) rfl rfl)))))) rfl))))) (zOne (zRet (cOfP cBl) rfl))))
theorem sc__law_reads : FnScope ["_law_rows_here", "_law_due", "_law_got", "e"] ["_law_rows_here"] (defScope st__law_reads) := ⟨rfl, rfl, rfl, by decide +kernel, rfl, by decide +kernel, by decide +kernel⟩
theorem ok__law_reads (T : Tx K mg) : FnOk P w K mg base CX0 7 T.a__law_reads T.d__law_reads ["_law_rows_here"] (spF K S__law_reads) :=
  fn_val (nl := 3) (fo := false) T.f__law_reads sc__law_reads rfl rfl rfl rfl (fun h => nomatch h) (fun cdv A outer s H E hr => show PSs _ _ (tS _ [.sh, .no, .no, .no] ⟨[.no, .no, .no, .no], [], [], [.no, .no, .no, .no], .sh⟩ _) from
    have sc := sc__law_reads
    (zCons (Γ1 := [.sh, .sh, .no, .no]) (zSet (i := 1) sc.nd rfl (by first | exact .inl rfl | exact .inr rfl) (cCall (S := (S__law_read)) (ok__law_read T) (hr.mono (by decide)) (by rfl) (by exact T.m__law_read) (by exact T.k__law_read) (by exact T.b__law_read) (aCons (cV 0 rfl (by decide) (pv 0)) aNil) rfl rfl) (by decide) rfl) (zCons (Γ1 := [.sh, .sh, .sh, .no]) (zTryAsN (Γ := [.sh, .sh, .no, .no]) (Γ1 := [.sh, .sh, .sh, .no]) (i := 3) rfl rfl sc.nd rfl rfl ⟨rfl, by decide, Or.inl T.gC_InvalidText⟩ T.te_InvalidText (by decide) rfl rfl (fun pn xe hp => (zOne (zSet (i := 2) sc.nd rfl (by first | exact .inl rfl | exact .inr rfl) (cCall (S := (S_read_slips)) (ok_read_slips T) (hr.mono (by decide)) (by rfl) (by exact T.m_read_slips) (by exact T.k_read_slips) (by exact T.b_read_slips) (aCons (cCallT call_tuple_of (tup_s rfl) (by rfl) (by exact T.z_tuple) PyProof.Rows.boot_tuple (aCons (cV 0 rfl (by decide) (pv 0)) aNil)) aNil) rfl rfl) (by decide) rfl))) (fun W pn xe tk hp => (rOneW (Γ1 := [.sh, .sh, .no, .no]) (Γx := [.sh, .sh, .no, .no]) (rSet (S := R_read_slips_InvalidText) (i := 2) sc.nd rfl (by first | exact .inl rfl | exact .inr rfl) rfl (pe_callRN (S := R_read_slips_InvalidText) (rz_read_slips_InvalidText T) (hr.mono (by decide)) (by rfl) (by exact T.m_read_slips) (by exact T.k_read_slips) (by exact T.b_read_slips) tk (by exact (aCons (cCallT call_tuple_of (tup_s rfl) (by rfl) (by exact T.z_tuple) PyProof.Rows.boot_tuple (aCons (cV 0 rfl (by decide) (pv 0)) aNil)) aNil)))) rfl)) (fun a dd oe pn hz => (show PSs _ _ (tS _ [.sh, .sh, .no, (.ex a dd)] ⟨[.sh, .sh, .sh, .no], _, _, _, _⟩ _) from (zCons (Γ1 := [.sh, .sh, .no, (.ex a dd)]) (zIf (qOr (qNot (qVal (cIsN T.ec_InvalidText hz (by rfl) (by exact T.z_isinstance) (pe_glob (v := .ref T.B_TextError) (by rfl) (by exact T.gB_TextError) rfl) (fun _ h => h) T.is_InvalidText_TextError (pv 3) rfl))) (qOr1 (qNot (qVal (cIsN T.ec_InvalidText hz (by rfl) (by exact T.z_isinstance) (pe_bltn (v := .ty "ValueError") (by rfl) (by exact T.z_ValueError) PyProof.Rows.Boot.«ValueError» rfl) (fun _ h => h) T.is_InvalidText_ValueError (pv 3) rfl))))).pt (zOne (zRet (cOfP cBl) rfl)) zNil) (zOne (zRet (cOfP (vAnd (cCmp (op_eqD hr.units) (eq_s rfl rfl) (cIx ix_sh (cV 1 rfl (by decide) (pv 1)) cInt (by intro _ _; rfl)) cStr (nomark _)) (vOne (pOfC (cCallH hz.hot (S := (S__law_same 6)) (okh__law_same T 6) (L2H.roomH_mark (hr.mono (by decide)) _) (by rfl) (by exact T.m__law_same) (by exact T.k__law_same) (by exact T.b__law_same) (aCons (cTup (aCons (cXf T.xf_InvalidText T.n_InvalidText_line hz.c (pv 3) rfl) (aCons (cXf T.xf_InvalidText T.n_InvalidText_field hz.c (pv 3) rfl) aNil))) (aCons (cTup (aCons (cIx ix_sh (cV 1 rfl (by decide) (pv 1)) cInt (by intro _ _; rfl)) (aCons (cIx ix_sh (cV 1 rfl (by decide) (pv 1)) cInt (by intro _ _; rfl)) aNil))) aNil)) rfl rfl))))) rfl)))))) (zOne (zRet (cOfP (vAnd (cCmp (op_eqD hr.units) (eq_s rfl rfl) (cIx ix_sh (cV 1 rfl (by decide) (pv 1)) cInt (by intro _ _; rfl)) cStr (nomark _)) (vOne (pOfC (cCall (S := (S__law_same 6)) (ok__law_same T 6) (hr.mono (by decide)) (by rfl) (by exact T.m__law_same) (by exact T.k__law_same) (by exact T.b__law_same) (aCons (cV 2 rfl (by decide) (pv 2)) (aCons (cIx ix_sh (cV 1 rfl (by decide) (pv 1)) cInt (by intro _ _; rfl)) aNil)) rfl rfl))))) rfl)))))
theorem sc__law_kinds : FnScope ["_law_pairs_here", "_law_pair"] ["_law_pairs_here"] (defScope st__law_kinds) := ⟨rfl, rfl, rfl, by decide +kernel, rfl, by decide +kernel, by decide +kernel⟩
theorem ok__law_kinds (T : Tx K mg) : FnOk P w K mg base CX0 7 T.a__law_kinds T.d__law_kinds ["_law_pairs_here"] (spF K S__law_kinds) :=
  fn_val (nl := 1) (fo := false) T.f__law_kinds sc__law_kinds rfl rfl rfl rfl (fun h => nomatch h) (fun cdv A outer s H E hr => show PSs _ _ (tS _ [.sh, .no] ⟨[.no, .no], [], [], [.no, .no], .sh⟩ _) from
    have sc := sc__law_kinds
    (zCons (Γ1 := [.sh, .no]) (zFor (Γ := [.sh, .no]) (Γ1 := [.sh, .sh]) PassesOwn.never rfl (iSeq (cV 0 rfl (by decide) (pv 0))) (hName (i := 1) sc.nd rfl (by first | exact .inl rfl | exact .inr rfl) (by decide)) (zWkn (n' := [.sh, .sh]) (zOne (zIf (qCmp op_notBA notBA_s (pOfC (cCall (S := (S_is_slip)) (ok_is_slip T) (hr.mono (by decide)) (by rfl) (by exact T.m_is_slip) (by exact T.k_is_slip) (by exact T.b_is_slip) (aCons (cV 1 rfl (by decide) (pv 1)) aNil) rfl rfl)) cBl (by with_unfolding_all rfl)) (zOne (zRet (cOfP cBl) rfl)) zNil)) rfl) rfl) (zCons (Γ1 := [.sh, .no]) (zFor (Γ := [.sh, .no]) (Γ1 := [.sh, .sh]) PassesOwn.never rfl (iSeq (cFrz (cLst (aCons (cTup (aCons cStr (aCons cStr aNil))) (aCons (cTup (aCons cStr (aCons cStr aNil))) (aCons (cTup (aCons cStr (aCons cStr aNil))) (aCons (cTup (aCons cStr (aCons cStr aNil))) aNil))))))) (hName (i := 1) sc.nd rfl (by first | exact .inl rfl | exact .inr rfl) (by decide)) (zWkn (n' := [.sh, .sh]) (zOne (zIf (qOr (qCmp op_notBA notBA_s (pOfC (cCallK (S := (S_is_slip)) (ks := ["thing"]) (pm := [0]) (ok_is_slip T) (hr.mono (by decide)) (by rfl) (by exact T.m_is_slip) (by exact T.k_is_slip) (by exact T.kb_is_slip_thing) (wCons (cV 1 rfl (by decide) (pv 1)) wNil) rfl rfl (ro_len _ _ (by decide)) rfl rfl)) cBl (by with_unfolding_all rfl)) (qOr1 (qNot (qVal (pOfC (cCall (S := (S__law_same 6)) (ok__law_same T 6) (hr.mono (by decide)) (by rfl) (by exact T.m__law_same) (by exact T.k__law_same) (by exact T.b__law_same) (aCons (pOfC (cCall (S := (S_slip_lines)) (ok_slip_lines T) (hr.mono (by decide)) (by rfl) (by exact T.m_slip_lines) (by exact T.k_slip_lines) (by exact T.b_slip_lines) (aCons (cTup (aCons (cV 1 rfl (by decide) (pv 1)) aNil)) aNil) rfl rfl)) (aCons (cTup (aCons (c2 op_add' add_s (c2 op_add' add_s (cIx ix_sh (cV 1 rfl (by decide) (pv 1)) cInt (by intro _ _; rfl)) cStr) (cIx ix_sh (cV 1 rfl (by decide) (pv 1)) cInt (by intro _ _; rfl))) aNil)) aNil)) rfl rfl)))))).pt (zOne (zRet (cOfP cBl) rfl)) zNil)) rfl) rfl) (zOne (zRet (cOfP cBl) rfl)))))
theorem sc__law_bad : FnScope ["_law_script", "_law_pairs_here", "_law_wrong", "_law_thing_told", "_law_spoilt", "_law_place", "_law_kept", "_law_asked", "_law_one_asked"] ["_law_script", "_law_pairs_here"] (defScope st__law_bad) := ⟨rfl, rfl, rfl, by decide +kernel, rfl, by decide +kernel, by decide +kernel⟩
theorem ok__law_bad (T : Tx K mg) : FnOk P w K mg base CX0 8 T.a__law_bad T.d__law_bad ["_law_script", "_law_pairs_here"] (spF K S__law_bad) :=
  fn_val (nl := 7) (fo := false) T.f__law_bad sc__law_bad rfl rfl rfl rfl (fun h => nomatch h) (fun cdv A outer s H E hr => show PSs _ _ (tS _ [.sh, .sh, .no, .no, .no, .no, .no, .no, .no] ⟨[.no, .no, .no, .no, .no, .no, .no, .no, .no], [], [], [.no, .no, .no, .no, .no, .no, .no, .no, .no], .sh⟩ _) from
    have sc := sc__law_bad
    (zCons (Γ1 := [.sh, .sh, .sh, .no, .no, .no, .no, .no, .no]) (zSet (i := 2) sc.nd rfl (by first | exact .inl rfl | exact .inr rfl) (cCall0 (S := (S__law_bad_slips)) (ok__law_bad_slips T) (hr.mono (by decide)) (by rfl) (by exact T.m__law_bad_slips) (by exact T.k__law_bad_slips) (by exact T.b__law_bad_slips) rfl rfl) (by decide) rfl) (zCons (Γ1 := [.sh, .sh, .sh, .no, .no, .no, .no, .no, .no]) (zFor (Γ := [.sh, .sh, .sh, .no, .no, .no, .no, .no, .no]) (Γ1 := [.sh, .sh, .sh, .sh, .no, .no, .no, .no, .no]) PassesOwn.never rfl (iSeq (cV 2 rfl (by decide) (pv 2))) (hName (i := 3) sc.nd rfl (by first | exact .inl rfl | exact .inr rfl) (by decide)) (zWkn (n' := [.sh, .sh, .sh, .sh, .no, .no, .no, .no, .no]) (zOne (zIf (qCmp op_notBA notBA_s (pOfC (cCall (S := (S_is_slip)) (ok_is_slip T) (hr.mono (by decide)) (by rfl) (by exact T.m_is_slip) (by exact T.k_is_slip) (by exact T.b_is_slip) (aCons (cV 3 rfl (by decide) (pv 3)) aNil) rfl rfl)) cBl (by with_unfolding_all rfl)) (zOne (zRet (cOfP cBl) rfl)) zNil)) rfl) rfl) (zCons (Γ1 := [.sh, .sh, .sh, .no, .sh, .no, .no, .no, .no]) (zSet (i := 4) sc.nd rfl (by first | exact .inl rfl | exact .inr rfl) (cOfP (cIx ix_sh (cV 2 rfl (by decide) (pv 2)) (pOfC (cCall (S := (S__law_num)) (ok__law_num T) (hr.mono (by decide)) (by rfl) (by exact T.m__law_num) (by exact T.k__law_num) (by exact T.b__law_num) (aCons (cV 0 rfl (by decide) (pv 0)) (aCons cInt (aCons (cCallB call_len' (len_s rfl) (by rfl) (by exact T.z_len) PySem.boot_len (aCons (cV 2 rfl (by decide) (pv 2)) aNil)) aNil))) rfl rfl)) (by intro _ _; rfl))) (by decide) rfl) (zCons (Γ1 := [.sh, .sh, .sh, .no, .sh, .sh, .no, .no, .no]) (zSet (i := 5) sc.nd rfl (by first | exact .inl rfl | exact .inr rfl) (cCall (S := (S__law_num)) (ok__law_num T) (hr.mono (by decide)) (by rfl) (by exact T.m__law_num) (by exact T.k__law_num) (by exact T.b__law_num) (aCons (cV 0 rfl (by decide) (pv 0)) (aCons cInt (aCons (c2 op_add' add_s (cCallB call_len' (len_s rfl) (by rfl) (by exact T.z_len) PySem.boot_len (aCons (cV 1 rfl (by decide) (pv 1)) aNil)) cInt) aNil))) rfl rfl) (by decide) rfl) (zCons (Γ1 := [.sh, .sh, .sh, .no, .sh, .sh, (.ol .sh), .no, .no]) (zSet (i := 6) sc.nd rfl (by first | exact .inl rfl | exact .inr rfl) (cListC (by rfl) (by exact T.z_list) rfl (aCons (cV 1 rfl (by decide) (pv 1)) aNil)) (by decide) rfl) (zFrz (Γ := [.sh, .sh, .sh, .no, .sh, .sh, (.ol .sh), .no, .no]) 6 rfl rfl (zCons (Γ1 := [.sh, .sh, .sh, .no, .sh, .sh, .sh, (.ol .sh), .no]) (zSet (i := 7) sc.nd rfl (by first | exact .inl rfl | exact .inr rfl) (cLst (aCons (cTup aNil) (aCons (cV 6 rfl (by decide) (pv 6)) (aCons cNon (aCons cStr (aCons cInt (aCons (cTup (aCons cStr (aCons cStr aNil))) (aCons (cIx ix_sh (cV 1 rfl (by decide) (pv 1)) cInt (by intro _ _; rfl)) (aCons (c2 op_plus plus_s (c2 op_plus plus_s (cCallT call_tuple_of (tup_s rfl) (by rfl) (by exact T.z_tuple) PyProof.Rows.boot_tuple (aCons (cFrz (cSlL rfl (cV 1 rfl (by decide) (pv 1)) oNone (oSome (cV 5 rfl (by decide) (pv 5))))) aNil)) (cTup (aCons (cV 4 rfl (by decide) (pv 4)) aNil))) (cCallT call_tuple_of (tup_s rfl) (by rfl) (by exact T.z_tuple) PyProof.Rows.boot_tuple (aCons (cFrz (cSlL rfl (cV 1 rfl (by decide) (pv 1)) (oSome (cV 5 rfl (by decide) (pv 5))) oNone)) aNil))) aNil))))))))) (by decide) rfl) (zFrz (Γ := [.sh, .sh, .sh, .no, .sh, .sh, .sh, (.ol .sh), .no]) 7 rfl rfl (zCons (Γ1 := [.sh, .sh, .sh, .no, .sh, .sh, .sh, .sh, .no]) (zFor (Γ := [.sh, .sh, .sh, .no, .sh, .sh, .sh, .sh, .no]) (Γ1 := [.sh, .sh, .sh, .no, .sh, .sh, .sh, .sh, .sh]) PassesOwn.never rfl (iSeq (cV 7 rfl (by decide) (pv 7))) (hName (i := 8) sc.nd rfl (by first | exact .inl rfl | exact .inr rfl) (by decide)) (zWkn (n' := [.sh, .sh, .sh, .no, .sh, .sh, .sh, .sh, .sh]) (zOne (zIf (qOr (qNot (qVal (pOfC (cCall (S := (S__law_refused)) (ok__law_refused T) (hr.mono (by decide)) (by rfl) (by exact T.m__law_refused) (by exact T.k__law_refused) (by exact T.b__law_refused) (aCons cInt (aCons (cV 8 rfl (by decide) (pv 8)) (aCons cInt (aCons cStr aNil)))) rfl rfl)))) (qOr1 (qNot (qVal (pOfC (cCall (S := (S__law_refused)) (ok__law_refused T) (hr.mono (by decide)) (by rfl) (by exact T.m__law_refused) (by exact T.k__law_refused) (by exact T.b__law_refused) (aCons cInt (aCons (cV 8 rfl (by decide) (pv 8)) (aCons cInt (aCons cStr aNil)))) rfl rfl)))))).pt (zOne (zRet (cOfP cBl) rfl)) zNil)) rfl) rfl) (zOne (zRet (cOfP (cCmp (op_eqD hr.units) (eq_s rfl rfl) (cV 6 rfl (by decide) (pv 6)) (cV 1 rfl (by decide) (pv 1)) (nomark _))) rfl))))))))))))
theorem sc__law_names : FnScope ["_law_script", "_law_anew", "_law_wider", "_law_asked", "_law_place", "_law_spoilt", "_law_names_told"] ["_law_script", "_law_anew", "_law_wider"] (defScope st__law_names) := ⟨rfl, rfl, rfl, by decide +kernel, rfl, by decide +kernel, by decide +kernel⟩
theorem ok__law_names (T : Tx K mg) : FnOk P w K mg base CX0 8 T.a__law_names T.d__law_names ["_law_script", "_law_anew", "_law_wider"] (spF K S__law_names) :=
  fn_val (nl := 4) (fo := false) T.f__law_names sc__law_names rfl rfl rfl rfl (fun h => nomatch h) (fun cdv A outer s H E hr => show PSs _ _ (tS _ [.sh, .sh, .sh, .no, .no, .no, .no] ⟨[.no, .no, .no, .no, .no, .no, .no], [], [], [.no, .no, .no, .no, .no, .no, .no], .sh⟩ _) from
    have sc := sc__law_names
    (zCons (Γ1 := [.sh, .sh, .sh, (.ol .sh), .no, .no, .no]) (zSet (i := 3) sc.nd rfl (by first | exact .inl rfl | exact .inr rfl) (cLst (aCons (cCallT call_tuple_of (tup_s rfl) (by rfl) (by exact T.z_tuple) PyProof.Rows.boot_tuple (aCons (cFrz (cSlL rfl (cV 1 rfl (by decide) (pv 1)) oNone (oSome (cNeg cInt)))) aNil)) (aCons (c2 op_plus plus_s (cCallT call_tuple_of (tup_s rfl) (by rfl) (by exact T.z_tuple) PyProof.Rows.boot_tuple (aCons (cV 1 rfl (by decide) (pv 1)) aNil)) (cTup (aCons cStr aNil))) (aCons (cFrz (cListC (by rfl) (by exact T.z_list) rfl (aCons (cV 1 rfl (by decide) (pv 1)) aNil))) (aCons cNon (aCons (cJoin cStr (cV 1 rfl (by decide) (pv 1))) (aCons (cTup aNil) aNil))))))) (by decide) rfl) (zCons (Γ1 := [.sh, .sh, .sh, (.ol .sh), .sh, .no, .no]) (zSet (i := 4) sc.nd rfl (by first | exact .inl rfl | exact .inr rfl) (cCall (S := (S__law_num)) (ok__law_num T) (hr.mono (by decide)) (by rfl) (by exact T.m__law_num) (by exact T.k__law_num) (by exact T.b__law_num) (aCons (cV 0 rfl (by decide) (pv 0)) (aCons cInt (aCons (cCallB call_len' (len_s rfl) (by rfl) (by exact T.z_len) PySem.boot_len (aCons (cV 1 rfl (by decide) (pv 1)) aNil)) aNil))) rfl rfl) (by decide) rfl) (zCons (Γ1 := [.sh, .sh, .sh, (.ol .sh), .sh, .no, .no]) (zFor (Γ := [.sh, .sh, .sh, (.ol .sh), .sh, .no, .no]) (Γ1 := [.sh, .sh, .sh, (.ol .sh), .sh, .sh, .no]) PassesOwn.never rfl (iSeq (cFrz (cLst (aCons cStr (aCons cStr (aCons cStr (aCons cStr (aCons cInt (aCons cBl (aCons cNon (aCons (cTup (aCons cStr aNil)) (aCons (cIx ix_sh (cV 1 rfl (by decide) (pv 1)) (c2 op_sub sub_s (cV 4 rfl (by decide) (pv 4)) cInt) (by intro _ _; rfl)) aNil)))))))))))) (hName (i := 5) sc.nd rfl (by first | exact .inl rfl | exact .inr rfl) (by decide)) (zWkn (n' := [.sh, .sh, .sh, (.ol .sh), .sh, .sh, .no]) (zOne (zDrop (mApp 3 (pe_bm PySem.F.plainAttrs_list PySem.F.slot_list_append PySem.F.type_list_append mt_append (pv 3) (pa_cons (mOfP (c2 op_plus plus_s (c2 op_plus plus_s (cCallT call_tuple_of (tup_s rfl) (by rfl) (by exact T.z_tuple) PyProof.Rows.boot_tuple (aCons (cFrz (cSlL rfl (cV 1 rfl (by decide) (pv 1)) oNone (oSome (cV 4 rfl (by decide) (pv 4))))) aNil)) (cTup (aCons (cV 5 rfl (by decide) (pv 5)) aNil))) (cCallT call_tuple_of (tup_s rfl) (by rfl) (by exact T.z_tuple) PyProof.Rows.boot_tuple (aCons (cFrz (cSlL rfl (cV 1 rfl (by decide) (pv 1)) (oSome (c2 op_add' add_s (cV 4 rfl (by decide) (pv 4)) cInt)) oNone)) aNil)))) pa_nil)) rfl rfl))) rfl) rfl) (zFrz (Γ := [.sh, .sh, .sh, (.ol .sh), .sh, .no, .no]) 3 rfl rfl (zCons (Γ1 := [.sh, .sh, .sh, .sh, .sh, .no, .no]) (zFor (Γ := [.sh, .sh, .sh, .sh, .sh, .no, .no]) (Γ1 := [.sh, .sh, .sh, .sh, .sh, .no, .sh]) PassesOwn.never rfl (iSeq (cV 3 rfl (by decide) (pv 3))) (hName (i := 6) sc.nd rfl (by first | exact .inl rfl | exact .inr rfl) (by decide)) (zWkn (n' := [.sh, .sh, .sh, .sh, .sh, .no, .sh]) (zOne (zIf (qNot (qVal (pOfC (cCall (S := (S__law_refused)) (ok__law_refused T) (hr.mono (by decide)) (by rfl) (by exact T.m__law_refused) (by exact T.k__law_refused) (by exact T.b__law_refused) (aCons cInt (aCons (cV 6 rfl (by decide) (pv 6)) (aCons (cV 2 rfl (by decide) (pv 2)) (aCons cStr aNil)))) rfl rfl)))) (zOne (zRet (cOfP cBl) rfl)) zNil)) rfl) rfl) (zOne (zRet (cOfP cBl) rfl))))))))
theorem sc__law_rows : FnScope ["_law_script", "_law_pairs_here", "_law_due", "_law_pair", "_law_menu", "_law_rows_here", "_law_k", "_law_right", "_law_j", "_law_kept", "_law_rows_told"] ["_law_script", "_law_pairs_here"] (defScope st__law_rows) := ⟨rfl, rfl, rfl, by decide +kernel, rfl, by decide +kernel, by decide +kernel⟩
theorem ok__law_rows (T : Tx K mg) : FnOk P w K mg base CX0 8 T.a__law_rows T.d__law_rows ["_law_script", "_law_pairs_here"] (spF K S__law_rows) :=
  fn_val (nl := 9) (fo := false) T.f__law_rows sc__law_rows rfl rfl rfl rfl (fun h => nomatch h) (fun cdv A outer s H E hr => show PSs _ _ (tS _ [.sh, .sh, .no, .no, .no, .no, .no, .no, .no, .no, .no] ⟨[.no, .no, .no, .no, .no, .no, .no, .no, .no, .no, .no], [], [], [.no, .no, .no, .no, .no, .no, .no, .no, .no, .no, .no], .sh⟩ _) from
    have sc := sc__law_rows
    (zCons (Γ1 := [.sh, .sh, .sh, .no, .no, .no, .no, .no, .no, .no, .no]) (zSet (i := 2) sc.nd rfl (by first | exact .inl rfl | exact .inr rfl) (cOfP (cCallT call_tuple_of (tup_s rfl) (by rfl) (by exact T.z_tuple) PyProof.Rows.boot_tuple (aCons (cFrz (cCmp0 (own := [("_law_pair", 3)]) (Γ1 := [.sh, .sh, .no, .sh, .no, .no, .no, .no, .no, .no, .no]) rfl sc.nd (iSeq (cV 1 rfl (by decide) (pv 1))) (show BlkOk ["_law_script", "_law_pairs_here", "_law_due", "_law_pair", "_law_menu", "_law_rows_here", "_law_k", "_law_right", "_law_j", "_law_kept", "_law_rows_told"] (defScope st__law_rows) _ _ from ⟨rfl, by decide +kernel, by decide +kernel, by decide +kernel, by decide +kernel⟩) (fun _ _ _ _ _ => (hName (i := 3) sc.nd rfl (by first | exact .inl rfl | exact .inr rfl) (by decide))) (fun _ _ _ _ _ => kNil) (fun _ _ _ _ _ => (cOfP (c2 op_add' add_s (c2 op_add' add_s (cIx ix_sh (cV 3 rfl (by decide) (pv 3)) cInt (by intro _ _; rfl)) cStr) (cIx ix_sh (cV 3 rfl (by decide) (pv 3)) cInt (by intro _ _; rfl))))) rfl)) aNil))) (by decide) rfl) (zCons (Γ1 := [.sh, .sh, .sh, .no, .no, .no, .no, .no, .no, .no, .no]) (zIf (qOr (qNot (qVal (pOfC (cCall (S := (S__law_same 6)) (ok__law_same T 6) (hr.mono (by decide)) (by rfl) (by exact T.m__law_same) (by exact T.k__law_same) (by exact T.b__law_same) (aCons (pOfC (cCall (S := (S_slip_lines)) (ok_slip_lines T) (hr.mono (by decide)) (by rfl) (by exact T.m_slip_lines) (by exact T.k_slip_lines) (by exact T.b_slip_lines) (aCons (cCallT call_tuple_of (tup_s rfl) (by rfl) (by exact T.z_tuple) PyProof.Rows.boot_tuple (aCons (cV 1 rfl (by decide) (pv 1)) aNil)) aNil) rfl rfl)) (aCons (cV 2 rfl (by decide) (pv 2)) aNil)) rfl rfl)))) (qOr1 (qNot (qVal (pOfC (cCall (S := (S__law_same 6)) (ok__law_same T 6) (hr.mono (by decide)) (by rfl) (by exact T.m__law_same) (by exact T.k__law_same) (by exact T.b__law_same) (aCons (pOfC (cCallK (S := (S_slip_lines)) (ks := ["slips"]) (pm := [0]) (ok_slip_lines T) (hr.mono (by decide)) (by rfl) (by exact T.m_slip_lines) (by exact T.k_slip_lines) (by exact T.kb_slip_lines_slips) (wCons (cCallT call_tuple_of (tup_s rfl) (by rfl) (by exact T.z_tuple) PyProof.Rows.boot_tuple (aCons (cV 1 rfl (by decide) (pv 1)) aNil)) wNil) rfl rfl (ro_len _ _ (by decide)) rfl rfl)) (aCons (cV 2 rfl (by decide) (pv 2)) aNil)) rfl rfl)))))).pt (zOne (zRet (cOfP cBl) rfl)) zNil) (zCons (Γ1 := [.sh, .sh, .sh, .no, .no, .no, .no, .no, .no, .no, .no]) (zIf (qOr (qNot (qVal (pOfC (cCall (S := (S__law_same 6)) (ok__law_same T 6) (hr.mono (by decide)) (by rfl) (by exact T.m__law_same) (by exact T.k__law_same) (by exact T.b__law_same) (aCons (pOfC (cCall (S := (S_read_slips)) (ok_read_slips T) (hr.mono (by decide)) (by rfl) (by exact T.m_read_slips) (by exact T.k_read_slips) (by exact T.b_read_slips) (aCons (cV 2 rfl (by decide) (pv 2)) aNil) rfl rfl)) (aCons (cCallT call_tuple_of (tup_s rfl) (by rfl) (by exact T.z_tuple) PyProof.Rows.boot_tuple (aCons (cV 1 rfl (by decide) (pv 1)) aNil)) aNil)) rfl rfl)))) (qOr1 (qNot (qVal (pOfC (cCall (S := (S__law_same 6)) (ok__law_same T 6) (hr.mono (by decide)) (by rfl) (by exact T.m__law_same) (by exact T.k__law_same) (by exact T.b__law_same) (aCons (pOfC (cCallK (S := (S_read_slips)) (ks := ["lines"]) (pm := [0]) (ok_read_slips T) (hr.mono (by decide)) (by rfl) (by exact T.m_read_slips) (by exact T.k_read_slips) (by exact T.kb_read_slips_lines) (wCons (cV 2 rfl (by decide) (pv 2)) wNil) rfl rfl (ro_len _ _ (by decide)) rfl rfl)) (aCons (cCallT call_tuple_of (tup_s rfl) (by rfl) (by exact T.z_tuple) PyProof.Rows.boot_tuple (aCons (cV 1 rfl (by decide) (pv 1)) aNil)) aNil)) rfl rfl)))))).pt (zOne (zRet (cOfP cBl) rfl)) zNil) (zCons (Γ1 := [.sh, .sh, .sh, .no, (.ol .sh), .no, .no, .no, .no, .no, .no]) (zSet (i := 4) sc.nd rfl (by first | exact .inl rfl | exact .inr rfl) (cLst (aCons cStr (aCons cStr (aCons cStr (aCons cStr (aCons cStr (aCons cStr (aCons cStr (aCons cStr (aCons cStr (aCons cStr (aCons cStr (aCons cStr (aCons cStr (aCons cStr aNil))))))))))))))) (by decide) rfl) (zFrz (Γ := [.sh, .sh, .sh, .no, (.ol .sh), .no, .no, .no, .no, .no, .no]) 4 rfl rfl (zCons (Γ1 := [.sh, .sh, .sh, .no, .sh, (.ol .sh), .no, .no, .no, .no, .no]) (zSetCmp (own := [("_law_k", 6)]) (Γ1 := [.sh, .sh, .sh, .no, .sh, .no, .sh, .no, .no, .no, .no]) (i := 5) rfl sc.nd rfl rfl rfl (Pv.iRng1 (by rfl) (by exact T.z_range) (aCons (c2 op_add' add_s cInt (pOfC (cCall (S := (S__law_num)) (ok__law_num T) (hr.mono (by decide)) (by rfl) (by exact T.m__law_num) (by exact T.k__law_num) (by exact T.b__law_num) (aCons (cV 0 rfl (by decide) (pv 0)) (aCons cInt (aCons cInt aNil))) rfl rfl))) aNil)) (show BlkOk ["_law_script", "_law_pairs_here", "_law_due", "_law_pair", "_law_menu", "_law_rows_here", "_law_k", "_law_right", "_law_j", "_law_kept", "_law_rows_told"] (defScope st__law_rows) _ _ from ⟨rfl, by decide +kernel, by decide +kernel, by decide +kernel, by decide +kernel⟩) (fun _ _ _ _ _ => (hName (i := 6) sc.nd rfl (by first | exact .inl rfl | exact .inr rfl) (by decide))) (fun _ _ _ _ _ => kNil) (fun _ _ _ _ _ => (cOfP (cIx ix_sh (cV 4 rfl (by decide) (pv 4)) (pOfC (cCall (S := (S__law_num)) (ok__law_num T) (hr.mono (by decide)) (by rfl) (by exact T.m__law_num) (by exact T.k__law_num) (by exact T.b__law_num) (aCons (cV 0 rfl (by decide) (pv 0)) (aCons (c2 op_add' add_s cInt (c2 op_mul' mul_s cInt (cV 6 rfl (by decide) (pv 6)))) (aCons cInt aNil))) rfl rfl)) (by intro _ _; rfl)))) rfl (by decide) rfl) (zFrz (Γ := [.sh, .sh, .sh, .no, .sh, (.ol .sh), .no, .no, .no, .no, .no]) 5 rfl rfl (zCons (Γ1 := [.sh, .sh, .sh, .no, .sh, .sh, .no, .no, .no, .no, .no]) (zIf (qNot (qVal (pOfC (cCall (S := (S__law_reads)) (ok__law_reads T) (hr.mono (by decide)) (by rfl) (by exact T.m__law_reads) (by exact T.k__law_reads) (by exact T.b__law_reads) (aCons (cV 5 rfl (by decide) (pv 5)) aNil) rfl rfl)))) (zOne (zRet (cOfP cBl) rfl)) zNil) (zCons (Γ1 := [.sh, .sh, .sh, .no, .sh, .sh, .no, (.ol .sh), .no, .no, .no]) (zSet (i := 7) sc.nd rfl (by first | exact .inl rfl | exact .inr rfl) (cLst (aCons cStr (aCons cStr (aCons cStr (aCons cStr aNil))))) (by decide) rfl) (zFrz (Γ := [.sh, .sh, .sh, .no, .sh, .sh, .no, (.ol .sh), .no, .no, .no]) 7 rfl rfl (zCons (Γ1 := [.sh, .sh, .sh, .no, .sh, .sh, .no, .sh, .no, .no, .no]) (zFor (Γ := [.sh, .sh, .sh, .no, .sh, .sh, .no, .sh, .no, .no, .no]) (Γ1 := [.sh, .sh, .sh, .no, .sh, .sh, .sh, .sh, .no, .no, .no]) PassesOwn.never rfl (Pv.iRng1 (by rfl) (by exact T.z_range) (aCons (cCallB call_len' (len_s rfl) (by rfl) (by exact T.z_len) PySem.boot_len (aCons (cV 5 rfl (by decide) (pv 5)) aNil)) aNil)) (hName (i := 6) sc.nd rfl (by first | exact .inl rfl | exact .inr rfl) (by decide)) (zWkn (n' := [.sh, .sh, .sh, .no, .sh, .sh, .sh, .sh, .no, .no, .no]) (zOne (zIf (qNot (qVal (pOfC (cCall (S := (S__law_reads)) (ok__law_reads T) (hr.mono (by decide)) (by rfl) (by exact T.m__law_reads) (by exact T.k__law_reads) (by exact T.b__law_reads) (aCons (cFrz (cCatL (pOfC (cCmp0 (own := [("_law_j", 8)]) (Γ1 := [.sh, .sh, .sh, .no, .sh, .sh, .sh, .sh, .sh, .no, .no]) rfl sc.nd (Pv.iRng1 (by rfl) (by exact T.z_range) (aCons (cV 6 rfl (by decide) (pv 6)) aNil)) (show BlkOk ["_law_script", "_law_pairs_here", "_law_due", "_law_pair", "_law_menu", "_law_rows_here", "_law_k", "_law_right", "_law_j", "_law_kept", "_law_rows_told"] (defScope st__law_rows) _ _ from ⟨rfl, by decide +kernel, by decide +kernel, by decide +kernel, by decide +kernel⟩) (fun _ _ _ _ _ => (hName (i := 8) sc.nd rfl (by first | exact .inl rfl | exact .inr rfl) (by decide))) (fun _ _ _ _ _ => kNil) (fun _ _ _ _ _ => (cOfP (cIx ix_sh (cV 7 rfl (by decide) (pv 7)) (c2 op_mod md_s (cCallT call_int1 int_s (by rfl) (by exact T.z_int) PyProof.Rows.boot_int (aCons (c2 op_add' add_s (cV 8 rfl (by decide) (pv 8)) (cV 6 rfl (by decide) (pv 6))) aNil)) cInt) (by intro _ _; rfl)))) rfl)) (pOfC (cLst (aCons (cIx ix_sh (cV 5 rfl (by decide) (pv 5)) (cV 6 rfl (by decide) (pv 6)) (by intro _ _; rfl)) (aCons cStr aNil)))))) aNil) rfl rfl)))) (zOne (zRet (cOfP cBl) rfl)) zNil)) rfl) rfl) (zCons (Γ1 := [.sh, .sh, .sh, .no, .sh, .sh, .no, .sh, .no, (.ol .sh), .no]) (zSet (i := 9) sc.nd rfl (by first | exact .inl rfl | exact .inr rfl) (cListC (by rfl) (by exact T.z_list) rfl (aCons (cV 2 rfl (by decide) (pv 2)) aNil)) (by decide) rfl) (zFrz (Γ := [.sh, .sh, .sh, .no, .sh, .sh, .no, .sh, .no, (.ol .sh), .no]) 9 rfl rfl (zCons (Γ1 := [.sh, .sh, .sh, .no, .sh, .sh, .no, .sh, .no, .sh, .no]) (zFor (Γ := [.sh, .sh, .sh, .no, .sh, .sh, .no, .sh, .no, .sh, .no]) (Γ1 := [.sh, .sh, .sh, .no, .sh, .sh, .no, .sh, .no, .sh, .sh]) PassesOwn.never rfl (iSeq (cFrz (cLst (aCons (cTup aNil) (aCons (cV 9 rfl (by decide) (pv 9)) (aCons cNon (aCons (cIx ix_sh (cV 2 rfl (by decide) (pv 2)) cInt (by intro _ _; rfl)) (aCons cInt (aCons (c2 op_plus plus_s (cV 2 rfl (by decide) (pv 2)) (cTup (aCons cNon aNil))) (aCons (cTup (aCons cStr (aCons cBl aNil))) (aCons (cTup (aCons (cV 2 rfl (by decide) (pv 2)) aNil)) (aCons (cTup (aCons cStr (aCons (cTup (aCons cStr (aCons cStr aNil))) aNil))) aNil)))))))))))) (hName (i := 10) sc.nd rfl (by first | exact .inl rfl | exact .inr rfl) (by decide)) (zWkn (n' := [.sh, .sh, .sh, .no, .sh, .sh, .no, .sh, .no, .sh, .sh]) (zOne (zIf (qNot (qVal (pOfC (cCall (S := (S__law_refused)) (ok__law_refused T) (hr.mono (by decide)) (by rfl) (by exact T.m__law_refused) (by exact T.k__law_refused) (by exact T.b__law_refused) (aCons cInt (aCons (cV 10 rfl (by decide) (pv 10)) (aCons cInt (aCons cStr aNil)))) rfl rfl)))) (zOne (zRet (cOfP cBl) rfl)) zNil)) rfl) rfl) (zOne (zRet (cOfP (cCmp (op_eqD hr.units) (eq_s rfl rfl) (cV 9 rfl (by decide) (pv 9)) (pOfC (cListC (by rfl) (by exact T.z_list) rfl (aCons (cV 2 rfl (by decide) (pv 2)) aNil))) (nomark _))) rfl)))))))))))))))))
theorem sc__law_heaps : FnScope ["_law_script", "_law_pairs_here", "_law_called_here", "_law_pile", "_law_pair", "_law_due", "_law_anew", "_law_k", "_law_wider", "_law_turned"] ["_law_script", "_law_pairs_here"] (defScope st__law_heaps) := ⟨rfl, rfl, rfl, by decide +kernel, rfl, by decide +kernel, by decide +kernel⟩
theorem ok__law_heaps (T : Tx K mg) : FnOk P w K mg base CX0 9 T.a__law_heaps T.d__law_heaps ["_law_script", "_law_pairs_here"] (spF K S__law_heaps) :=
  fn_val (nl := 8) (fo := false) T.f__law_heaps sc__law_heaps rfl rfl rfl rfl (fun h => nomatch h) (fun cdv A outer s H E hr => show PSs _ _ (tS _ [.sh, .sh, .no, .no, .no, .no, .no, .no, .no, .no] ⟨[.no, .no, .no, .no, .no, .no, .no, .no, .no, .no], [], [], [.no, .no, .no, .no, .no, .no, .no, .no, .no, .no], .sh⟩ _) from
    have sc := sc__law_heaps
    (zCons (Γ1 := [.sh, .sh, .sh, .no, .no, .no, .no, .no, .no, .no]) (zSet (i := 2) sc.nd rfl (by first | exact .inl rfl | exact .inr rfl) (cCall (S := (S__law_called)) (ok__law_called T) (hr.mono (by decide)) (by rfl) (by exact T.m__law_called) (by exact T.k__law_called) (by exact T.b__law_called) (aCons (cV 1 rfl (by decide) (pv 1)) aNil) rfl rfl) (by decide) rfl) (zCons (Γ1 := [.sh, .sh, .sh, .sh, .no, .no, .no, .no, .no, .no]) (zSet (i := 3) sc.nd rfl (by first | exact .inl rfl | exact .inr rfl) (cOfP (cTup (aCons (cCallB call_len' (len_s rfl) (by rfl) (by exact T.z_len) PySem.boot_len (aCons (cV 2 rfl (by decide) (pv 2)) aNil)) (aCons (cCallT call_tuple_of (tup_s rfl) (by rfl) (by exact T.z_tuple) PyProof.Rows.boot_tuple (aCons (cFrz (cCmp0 (own := [("_law_pair", 4)]) (Γ1 := [.sh, .sh, .sh, .no, .sh, .no, .no, .no, .no, .no]) rfl sc.nd (iSeq (cV 1 rfl (by decide) (pv 1))) (show BlkOk ["_law_script", "_law_pairs_here", "_law_called_here", "_law_pile", "_law_pair", "_law_due", "_law_anew", "_law_k", "_law_wider", "_law_turned"] (defScope st__law_heaps) _ _ from ⟨rfl, by decide +kernel, by decide +kernel, by decide +kernel, by decide +kernel⟩) (fun _ _ _ _ _ => (hName (i := 4) sc.nd rfl (by first | exact .inl rfl | exact .inr rfl) (by decide))) (fun _ _ _ _ _ => kNil) (fun _ _ _ _ _ => (cOfP (cTup (aCons (cIndex (t := .sh) rfl (pe_bm PySem.F.plainAttrs_list PySem.F.slot_list_index PySem.F.type_list_index mt_index (cV 2 rfl (by decide) (pv 2)) (pa_cons (cIx ix_sh (cV 4 rfl (by decide) (pv 4)) cInt (by intro _ _; rfl)) pa_nil))) (aCons (cIndex (t := .sh) rfl (pe_bm PySem.F.plainAttrs_list PySem.F.slot_list_index PySem.F.type_list_index mt_index (cV 2 rfl (by decide) (pv 2)) (pa_cons (cIx ix_sh (cV 4 rfl (by decide) (pv 4)) cInt (by intro _ _; rfl)) pa_nil))) aNil))))) rfl)) aNil)) aNil)))) (by decide) rfl) (zCons (Γ1 := [.sh, .sh, .sh, .sh, .no, .sh, .no, .no, .no, .no]) (zSet (i := 5) sc.nd rfl (by first | exact .inl rfl | exact .inr rfl) (cOfP (cTup (aCons (cCallT call_tuple_of (tup_s rfl) (by rfl) (by exact T.z_tuple) PyProof.Rows.boot_tuple (aCons (cV 2 rfl (by decide) (pv 2)) aNil)) (aCons (cV 3 rfl (by decide) (pv 3)) aNil)))) (by decide) rfl) (zCons (Γ1 := [.sh, .sh, .sh, .sh, .no, .sh, .no, .no, .no, .no]) (zIf (qOr (qNot (qVal (pOfC (cCall (S := (S__law_same 6)) (ok__law_same T 6) (hr.mono (by decide)) (by rfl) (by exact T.m__law_same) (by exact T.k__law_same) (by exact T.b__law_same) (aCons (pOfC (cCall (S := (S_heap_of)) (ok_heap_of T) (hr.mono (by decide)) (by rfl) (by exact T.m_heap_of) (by exact T.k_heap_of) (by exact T.b_heap_of) (aCons (cCallT call_tuple_of (tup_s rfl) (by rfl) (by exact T.z_tuple) PyProof.Rows.boot_tuple (aCons (cV 1 rfl (by decide) (pv 1)) aNil)) aNil) rfl rfl)) (aCons (cV 5 rfl (by decide) (pv 5)) aNil)) rfl rfl)))) (qOr1 (qNot (qVal (pOfC (cCall (S := (S__law_same 6)) (ok__law_same T 6) (hr.mono (by decide)) (by rfl) (by exact T.m__law_same) (by exact T.k__law_same) (by exact T.b__law_same) (aCons (pOfC (cCallK (S := (S_heap_of)) (ks := ["slips"]) (pm := [0]) (ok_heap_of T) (hr.mono (by decide)) (by rfl) (by exact T.m_heap_of) (by exact T.k_heap_of) (by exact T.kb_heap_of_slips) (wCons (cCallT call_tuple_of (tup_s rfl) (by rfl) (by exact T.z_tuple) PyProof.Rows.boot_tuple (aCons (cV 1 rfl (by decide) (pv 1)) aNil)) wNil) rfl rfl (ro_len _ _ (by decide)) rfl rfl)) (aCons (cV 5 rfl (by decide) (pv 5)) aNil)) rfl rfl)))))).pt (zOne (zRet (cOfP cBl) rfl)) zNil) (zCons (Γ1 := [.sh, .sh, .sh, .sh, .no, .sh, .no, .no, .no, .no]) (zIf (qOr (qCmp op_gt gt_s (cCallB call_len' (len_s rfl) (by rfl) (by exact T.z_len) PySem.boot_len (aCons (cV 1 rfl (by decide) (pv 1)) aNil)) cInt (nomark _)) (qOr1 (qCmp op_gt gt_s (cCallB call_len' (len_s rfl) (by rfl) (by exact T.z_len) PySem.boot_len (aCons (cV 2 rfl (by decide) (pv 2)) aNil)) cInt (nomark _)))).pt (zOne (zRet (cOfP cBl) rfl)) zNil) (zCons (Γ1 := [.sh, .sh, .sh, .sh, .no, .sh, .no, .no, .no, .no]) (zIf (qNot (qVal (pOfC (cCall (S := (S__law_same 6)) (ok__law_same T 6) (hr.mono (by decide)) (by rfl) (by exact T.m__law_same) (by exact T.k__law_same) (by exact T.b__law_same) (aCons (pOfC (cCall (S := (S_slips_of)) (ok_slips_of T) (hr.mono (by decide)) (by rfl) (by exact T.m_slips_of) (by exact T.k_slips_of) (by exact T.b_slips_of) (aCons (cCallT call_tuple_of (tup_s rfl) (by rfl) (by exact T.z_tuple) PyProof.Rows.boot_tuple (aCons (cV 2 rfl (by decide) (pv 2)) aNil)) (aCons (cV 3 rfl (by decide) (pv 3)) aNil)) rfl rfl)) (aCons (cCallT call_tuple_of (tup_s rfl) (by rfl) (by exact T.z_tuple) PyProof.Rows.boot_tuple (aCons (cV 1 rfl (by decide) (pv 1)) aNil)) aNil)) rfl rfl)))) (zOne (zRet (cOfP cBl) rfl)) zNil) (zCons (Γ1 := [.sh, .sh, .sh, .sh, .no, .sh, (.ol .sh), .no, .no, .no]) (zSet (i := 6) sc.nd rfl (by first | exact .inl rfl | exact .inr rfl) (cCatL (pOfC (cCmp0 (own := [("_law_k", 7)]) (Γ1 := [.sh, .sh, .sh, .sh, .no, .sh, .no, .sh, .no, .no]) rfl sc.nd (Pv.iRng1 (by rfl) (by exact T.z_range) (aCons (cCallB call_len' (len_s rfl) (by rfl) (by exact T.z_len) PySem.boot_len (aCons (cV 2 rfl (by decide) (pv 2)) aNil)) aNil)) (show BlkOk ["_law_script", "_law_pairs_here", "_law_called_here", "_law_pile", "_law_pair", "_law_due", "_law_anew", "_law_k", "_law_wider", "_law_turned"] (defScope st__law_heaps) _ _ from ⟨rfl, by decide +kernel, by decide +kernel, by decide +kernel, by decide +kernel⟩) (fun _ _ _ _ _ => (hName (i := 7) sc.nd rfl (by first | exact .inl rfl | exact .inr rfl) (by decide))) (fun _ _ _ _ _ => kNil) (fun _ _ _ _ _ => (cOfP (c2 op_add' add_s cStr (cIx ix_sh (cV 2 rfl (by decide) (pv 2)) (c2 op_sub sub_s (c2 op_sub sub_s (cCallB call_len' (len_s rfl) (by rfl) (by exact T.z_len) PySem.boot_len (aCons (cV 2 rfl (by decide) (pv 2)) aNil)) cInt) (cV 7 rfl (by decide) (pv 7))) (by intro _ _; rfl))))) rfl)) (pOfC (cLst (aCons cStr aNil)))) (by decide) rfl) (zFrz (Γ := [.sh, .sh, .sh, .sh, .no, .sh, (.ol .sh), .no, .no, .no]) 6 rfl rfl (zCons (Γ1 := [.sh, .sh, .sh, .sh, .no, .sh, .sh, .no, .sh, .no]) (zSet (i := 8) sc.nd rfl (by first | exact .inl rfl | exact .inr rfl) (cOfP (cTup (aCons (c2 op_add' add_s (cIx ix_sh (cV 3 rfl (by decide) (pv 3)) cInt (by intro _ _; rfl)) cInt) (aCons (cIx ix_sh (cV 3 rfl (by decide) (pv 3)) cInt (by intro _ _; rfl)) aNil)))) (by decide) rfl) (zCons (Γ1 := [.sh, .sh, .sh, .sh, .no, .sh, .sh, .no, .sh, .sh]) (zSet (i := 9) sc.nd rfl (by first | exact .inl rfl | exact .inr rfl) (cOfP (cCallT call_tuple_of (tup_s rfl) (by rfl) (by exact T.z_tuple) PyProof.Rows.boot_tuple (aCons (cFrz (cCmp0 (own := [("_law_pair", 4)]) (Γ1 := [.sh, .sh, .sh, .sh, .sh, .sh, .sh, .no, .sh, .no]) rfl sc.nd (iSeq (cIx ix_sh (cV 3 rfl (by decide) (pv 3)) cInt (by intro _ _; rfl))) (show BlkOk ["_law_script", "_law_pairs_here", "_law_called_here", "_law_pile", "_law_pair", "_law_due", "_law_anew", "_law_k", "_law_wider", "_law_turned"] (defScope st__law_heaps) _ _ from ⟨rfl, by decide +kernel, by decide +kernel, by decide +kernel, by decide +kernel⟩) (fun _ _ _ _ _ => (hName (i := 4) sc.nd rfl (by first | exact .inl rfl | exact .inr rfl) (by decide))) (fun _ _ _ _ _ => kNil) (fun _ _ _ _ _ => (cOfP (cTup (aCons (cIx ix_sh (cV 6 rfl (by decide) (pv 6)) (cIx ix_sh (cV 4 rfl (by decide) (pv 4)) cInt (by intro _ _; rfl)) (by intro _ _; rfl)) (aCons (cIx ix_sh (cV 6 rfl (by decide) (pv 6)) (cIx ix_sh (cV 4 rfl (by decide) (pv 4)) cInt (by intro _ _; rfl)) (by intro _ _; rfl)) aNil))))) rfl)) aNil))) (by decide) rfl) (zCons (Γ1 := [.sh, .sh, .sh, .sh, .no, .sh, .sh, .no, .sh, .sh]) (zIf (qNot (qVal (pOfC (cCall (S := (S__law_same 6)) (ok__law_same T 6) (hr.mono (by decide)) (by rfl) (by exact T.m__law_same) (by exact T.k__law_same) (by exact T.b__law_same) (aCons (pOfC (cCall (S := (S_slips_of)) (ok_slips_of T) (hr.mono (by decide)) (by rfl) (by exact T.m_slips_of) (by exact T.k_slips_of) (by exact T.b_slips_of) (aCons (cCallT call_tuple_of (tup_s rfl) (by rfl) (by exact T.z_tuple) PyProof.Rows.boot_tuple (aCons (cFrz (cSlL rfl (cV 6 rfl (by decide) (pv 6)) oNone (oSome (cNeg cInt)))) aNil)) (aCons (cV 3 rfl (by decide) (pv 3)) aNil)) rfl rfl)) (aCons (cV 9 rfl (by decide) (pv 9)) aNil)) rfl rfl)))) (zOne (zRet (cOfP cBl) rfl)) zNil) (zCons (Γ1 := [.sh, .sh, .sh, .sh, .no, .sh, .sh, .no, .sh, .sh]) (zIf (qNot (qVal (pOfC (cCall (S := (S__law_same 6)) (ok__law_same T 6) (hr.mono (by decide)) (by rfl) (by exact T.m__law_same) (by exact T.k__law_same) (by exact T.b__law_same) (aCons (pOfC (cCallK (S := (S_slips_of)) (ks := ["heap", "names"]) (pm := [1, 0]) (ok_slips_of T) (hr.mono (by decide)) (by rfl) (by exact T.m_slips_of) (by exact T.k_slips_of) (by exact T.kb_slips_of_heap_names) (wCons (cV 8 rfl (by decide) (pv 8)) (wCons (cCallT call_tuple_of (tup_s rfl) (by rfl) (by exact T.z_tuple) PyProof.Rows.boot_tuple (aCons (cV 6 rfl (by decide) (pv 6)) aNil)) wNil)) rfl rfl (ro_len _ _ (by decide)) rfl rfl)) (aCons (cV 9 rfl (by decide) (pv 9)) aNil)) rfl rfl)))) (zOne (zRet (cOfP cBl) rfl)) zNil) (zCons (Γ1 := [.sh, .sh, .sh, .sh, .no, .sh, .sh, .no, .sh, .sh]) (zIf (qNot (qVal (pOfC (cCall (S := (S__law_same 6)) (ok__law_same T 6) (hr.mono (by decide)) (by rfl) (by exact T.m__law_same) (by exact T.k__law_same) (by exact T.b__law_same) (aCons (pOfC (cCall (S := (S_slips_of)) (ok_slips_of T) (hr.mono (by decide)) (by rfl) (by exact T.m_slips_of) (by exact T.k_slips_of) (by exact T.b_slips_of) (aCons (cCallT call_tuple_of (tup_s rfl) (by rfl) (by exact T.z_tuple) PyProof.Rows.boot_tuple (aCons (cV 6 rfl (by decide) (pv 6)) aNil)) (aCons (cTup (aCons (c2 op_add' add_s (cIx ix_sh (cV 3 rfl (by decide) (pv 3)) cInt (by intro _ _; rfl)) cInt) (aCons (cTup aNil) aNil))) aNil)) rfl rfl)) (aCons (cTup aNil) aNil)) rfl rfl)))) (zOne (zRet (cOfP cBl) rfl)) zNil) (zOne (zRet (cCall (S := (S__law_names)) (ok__law_names T) (hr.mono (by decide)) (by rfl) (by exact T.m__law_names) (by exact T.k__law_names) (by exact T.b__law_names) (aCons (cV 0 rfl (by decide) (pv 0)) (aCons (cV 6 rfl (by decide) (pv 6)) (aCons (cV 8 rfl (by decide) (pv 8)) aNil))) rfl rfl) rfl))))))))))))))))
theorem sc_law : FnScope ["_law_script", "_law_pairs_here"] ["_law_script"] (defScope st_law) := ⟨rfl, rfl, rfl, by decide +kernel, rfl, by decide +kernel, by decide +kernel⟩
theorem ok_law (T : Tx K mg) : FnOk P w K mg base CX0 10 T.a_law T.d_law ["_law_script"] (spF K S_law) :=
  fn_val (nl := 1) (fo := false) T.f_law sc_law rfl rfl rfl rfl (fun h => nomatch h) (fun cdv A outer s H E hr => show PSs _ _ (tS _ [.sh, .no] ⟨[.no, .no], [], [], [.no, .no], .sh⟩ _) from
    have sc := sc_law
    (zCons (Γ1 := [.sh, .sh]) (zSet (i := 1) sc.nd rfl (by first | exact .inl rfl | exact .inr rfl) (cCall (S := (S__law_pairs)) (ok__law_pairs T) (hr.mono (by decide)) (by rfl) (by exact T.m__law_pairs) (by exact T.k__law_pairs) (by exact T.b__law_pairs) (aCons (cV 0 rfl (by decide) (pv 0)) aNil) rfl rfl) (by decide) rfl) (zCons (Γ1 := [.sh, .sh]) (zIf (qOr (qNot (qVal (pOfC (cCall (S := (S__law_kinds)) (ok__law_kinds T) (hr.mono (by decide)) (by rfl) (by exact T.m__law_kinds) (by exact T.k__law_kinds) (by exact T.b__law_kinds) (aCons (cV 1 rfl (by decide) (pv 1)) aNil) rfl rfl)))) (qOr1 (qNot (qVal (pOfC (cCall (S := (S__law_bad)) (ok__law_bad T) (hr.mono (by decide)) (by rfl) (by exact T.m__law_bad) (by exact T.k__law_bad) (by exact T.b__law_bad) (aCons (cV 0 rfl (by decide) (pv 0)) (aCons (cV 1 rfl (by decide) (pv 1)) aNil)) rfl rfl)))))).pt (zOne (zRet (cOfP cBl) rfl)) zNil) (zOne (zRet (cOfP (vAnd (pOfC (cCall (S := (S__law_heaps)) (ok__law_heaps T) (hr.mono (by decide)) (by rfl) (by exact T.m__law_heaps) (by exact T.k__law_heaps) (by exact T.b__law_heaps) (aCons (cV 0 rfl (by decide) (pv 0)) (aCons (cV 1 rfl (by decide) (pv 1)) aNil)) rfl rfl)) (vOne (pOfC (cCall (S := (S__law_rows)) (ok__law_rows T) (hr.mono (by decide)) (by rfl) (by exact T.m__law_rows) (by exact T.k__law_rows) (by exact T.b__law_rows) (aCons (cV 0 rfl (by decide) (pv 0)) (aCons (cV 1 rfl (by decide) (pv 1)) aNil)) rfl rfl))))) rfl)))))
end
end LawK36

set_option Elab.async false
set_option linter.all false
set_option maxRecDepth 100000
set_option maxHeartbeats 4000000
namespace LawK36
open PySem PySem.Spec PyProof.Rows L2 Pv
theorem all_mk {l : PySem.W.OpenLaw} {w : World} {K : PySem.W.Frag} {h : Heap} {mg : Str → Option Value} {fa : Addr} (X : K.In h) (G : h.Ns mainGlobals mg) (hfa : mg "law" = some (.ref fa))
    {a0 : Addr} {od0 an0 : Option Addr} {sl0 : Array (Option Value)} {oc0 kV0 dc0 pm0 cd0 ct0 : Value} (n0 : PySem.W.nsIn K mainGlobals "_is_name" = some (some (.ref a0))) (l0 : K.lookup a0 = some ⟨oc0, od0, .func (PySem.W.fnOf "_is_name" "_is_name" (defArgs st__is_name) (defBody st__is_name) (defScope st__is_name) .none kV0 dc0 pm0 an0 cd0 ct0), sl0⟩) (c0 : PySem.W.codeIn K cd0 "_is_name" = true) (k0 : PySem.W.keepIn K (.ref a0) = true)
    {a1 : Addr} {od1 an1 : Option Addr} {sl1 : Array (Option Value)} {oc1 kV1 dc1 pm1 cd1 ct1 : Value} (n1 : PySem.W.nsIn K mainGlobals "_are_lines" = some (some (.ref a1))) (l1 : K.lookup a1 = some ⟨oc1, od1, .func (PySem.W.fnOf "_are_lines" "_are_lines" (defArgs st__are_lines) (defBody st__are_lines) (defScope st__are_lines) .none kV1 dc1 pm1 an1 cd1 ct1), sl1⟩) (c1 : PySem.W.codeIn K cd1 "_are_lines" = true) (k1 : PySem.W.keepIn K (.ref a1) = true)
    {a2 : Addr} {od2 an2 : Option Addr} {sl2 : Array (Option Value)} {oc2 kV2 dc2 pm2 cd2 ct2 : Value} (n2 : PySem.W.nsIn K mainGlobals "_law_num" = some (some (.ref a2))) (l2 : K.lookup a2 = some ⟨oc2, od2, .func (PySem.W.fnOf "_law_num" "_law_num" (defArgs st__law_num) (defBody st__law_num) (defScope st__law_num) .none kV2 dc2 pm2 an2 cd2 ct2), sl2⟩) (c2 : PySem.W.codeIn K cd2 "_law_num" = true) (k2 : PySem.W.keepIn K (.ref a2) = true)
    {a3 : Addr} {od3 an3 : Option Addr} {sl3 : Array (Option Value)} {oc3 kV3 dc3 pm3 cd3 ct3 : Value} (n3 : PySem.W.nsIn K mainGlobals "_law_called" = some (some (.ref a3))) (l3 : K.lookup a3 = some ⟨oc3, od3, .func (PySem.W.fnOf "_law_called" "_law_called" (defArgs st__law_called) (defBody st__law_called) (defScope st__law_called) .none kV3 dc3 pm3 an3 cd3 ct3), sl3⟩) (c3 : PySem.W.codeIn K cd3 "_law_called" = true) (k3 : PySem.W.keepIn K (.ref a3) = true)
    {a4 : Addr} {od4 an4 : Option Addr} {sl4 : Array (Option Value)} {oc4 kV4 dc4 pm4 cd4 ct4 : Value} (n4 : PySem.W.nsIn K mainGlobals "_law_parts" = some (some (.ref a4))) (l4 : K.lookup a4 = some ⟨oc4, od4, .func (PySem.W.fnOf "_law_parts" "_law_parts" (defArgs st__law_parts) (defBody st__law_parts) (defScope st__law_parts) .none kV4 dc4 pm4 an4 cd4 ct4), sl4⟩) (c4 : PySem.W.codeIn K cd4 "_law_parts" = true) (k4 : PySem.W.keepIn K (.ref a4) = true)
    {a5 : Addr} {od5 an5 : Option Addr} {sl5 : Array (Option Value)} {oc5 kV5 dc5 pm5 cd5 ct5 : Value} (n5 : PySem.W.nsIn K mainGlobals "_law_bad_slips" = some (some (.ref a5))) (l5 : K.lookup a5 = some ⟨oc5, od5, .func (PySem.W.fnOf "_law_bad_slips" "_law_bad_slips" (defArgs st__law_bad_slips) (defBody st__law_bad_slips) (defScope st__law_bad_slips) .none kV5 dc5 pm5 an5 cd5 ct5), sl5⟩) (c5 : PySem.W.codeIn K cd5 "_law_bad_slips" = true) (k5 : PySem.W.keepIn K (.ref a5) = true)
    {a6 : Addr} {od6 an6 : Option Addr} {sl6 : Array (Option Value)} {oc6 kV6 dc6 pm6 cd6 ct6 : Value} (n6 : PySem.W.nsIn K mainGlobals "is_slip" = some (some (.ref a6))) (l6 : K.lookup a6 = some ⟨oc6, od6, .func (PySem.W.fnOf "is_slip" "is_slip" (defArgs st_is_slip) (defBody st_is_slip) (defScope st_is_slip) .none kV6 dc6 pm6 an6 cd6 ct6), sl6⟩) (c6 : PySem.W.codeIn K cd6 "is_slip" = true) (k6 : PySem.W.keepIn K (.ref a6) = true)
    {a7 : Addr} {od7 an7 : Option Addr} {sl7 : Array (Option Value)} {oc7 kV7 dc7 pm7 cd7 ct7 : Value} (n7 : PySem.W.nsIn K mainGlobals "_are_names" = some (some (.ref a7))) (l7 : K.lookup a7 = some ⟨oc7, od7, .func (PySem.W.fnOf "_are_names" "_are_names" (defArgs st__are_names) (defBody st__are_names) (defScope st__are_names) .none kV7 dc7 pm7 an7 cd7 ct7), sl7⟩) (c7 : PySem.W.codeIn K cd7 "_are_names" = true) (k7 : PySem.W.keepIn K (.ref a7) = true)
    {a8 : Addr} {od8 an8 : Option Addr} {sl8 : Array (Option Value)} {oc8 kV8 dc8 pm8 cd8 ct8 : Value} (n8 : PySem.W.nsIn K mainGlobals "read_slips" = some (some (.ref a8))) (l8 : K.lookup a8 = some ⟨oc8, od8, .func (PySem.W.fnOf "read_slips" "read_slips" (defArgs st_read_slips) (defBody st_read_slips) (defScope st_read_slips) .none kV8 dc8 pm8 an8 cd8 ct8), sl8⟩) (c8 : PySem.W.codeIn K cd8 "read_slips" = true) (k8 : PySem.W.keepIn K (.ref a8) = true)
    {a9 : Addr} {od9 an9 : Option Addr} {sl9 : Array (Option Value)} {oc9 kV9 dc9 pm9 cd9 ct9 : Value} (n9 : PySem.W.nsIn K mainGlobals "_law_name" = some (some (.ref a9))) (l9 : K.lookup a9 = some ⟨oc9, od9, .func (PySem.W.fnOf "_law_name" "_law_name" (defArgs st__law_name) (defBody st__law_name) (defScope st__law_name) .none kV9 dc9 pm9 an9 cd9 ct9), sl9⟩) (c9 : PySem.W.codeIn K cd9 "_law_name" = true) (k9 : PySem.W.keepIn K (.ref a9) = true)
    {a10 : Addr} {od10 an10 : Option Addr} {sl10 : Array (Option Value)} {oc10 kV10 dc10 pm10 cd10 ct10 : Value} (n10 : PySem.W.nsIn K mainGlobals "_law_read" = some (some (.ref a10))) (l10 : K.lookup a10 = some ⟨oc10, od10, .func (PySem.W.fnOf "_law_read" "_law_read" (defArgs st__law_read) (defBody st__law_read) (defScope st__law_read) .none kV10 dc10 pm10 an10 cd10 ct10), sl10⟩) (c10 : PySem.W.codeIn K cd10 "_law_read" = true) (k10 : PySem.W.keepIn K (.ref a10) = true)
    {a11 : Addr} {od11 an11 : Option Addr} {sl11 : Array (Option Value)} {oc11 kV11 dc11 pm11 cd11 ct11 : Value} (n11 : PySem.W.nsIn K mainGlobals "slips_of" = some (some (.ref a11))) (l11 : K.lookup a11 = some ⟨oc11, od11, .func (PySem.W.fnOf "slips_of" "slips_of" (defArgs st_slips_of) (defBody st_slips_of) (defScope st_slips_of) .none kV11 dc11 pm11 an11 cd11 ct11), sl11⟩) (c11 : PySem.W.codeIn K cd11 "slips_of" = true) (k11 : PySem.W.keepIn K (.ref a11) = true)
    {a12 : Addr} {od12 an12 : Option Addr} {sl12 : Array (Option Value)} {oc12 kV12 dc12 pm12 cd12 ct12 : Value} (n12 : PySem.W.nsIn K mainGlobals "_are_slips" = some (some (.ref a12))) (l12 : K.lookup a12 = some ⟨oc12, od12, .func (PySem.W.fnOf "_are_slips" "_are_slips" (defArgs st__are_slips) (defBody st__are_slips) (defScope st__are_slips) .none kV12 dc12 pm12 an12 cd12 ct12), sl12⟩) (c12 : PySem.W.codeIn K cd12 "_are_slips" = true) (k12 : PySem.W.keepIn K (.ref a12) = true)
    {a13 : Addr} {od13 an13 : Option Addr} {sl13 : Array (Option Value)} {oc13 kV13 dc13 pm13 cd13 ct13 : Value} (n13 : PySem.W.nsIn K mainGlobals "_law_pairs" = some (some (.ref a13))) (l13 : K.lookup a13 = some ⟨oc13, od13, .func (PySem.W.fnOf "_law_pairs" "_law_pairs" (defArgs st__law_pairs) (defBody st__law_pairs) (defScope st__law_pairs) .none kV13 dc13 pm13 an13 cd13 ct13), sl13⟩) (c13 : PySem.W.codeIn K cd13 "_law_pairs" = true) (k13 : PySem.W.keepIn K (.ref a13) = true)
    {a14 : Addr} {od14 an14 : Option Addr} {sl14 : Array (Option Value)} {oc14 kV14 dc14 pm14 cd14 ct14 : Value} (n14 : PySem.W.nsIn K mainGlobals "heap_of" = some (some (.ref a14))) (l14 : K.lookup a14 = some ⟨oc14, od14, .func (PySem.W.fnOf "heap_of" "heap_of" (defArgs st_heap_of) (defBody st_heap_of) (defScope st_heap_of) .none kV14 dc14 pm14 an14 cd14 ct14), sl14⟩) (c14 : PySem.W.codeIn K cd14 "heap_of" = true) (k14 : PySem.W.keepIn K (.ref a14) = true)
    {a15 : Addr} {od15 an15 : Option Addr} {sl15 : Array (Option Value)} {oc15 kV15 dc15 pm15 cd15 ct15 : Value} (n15 : PySem.W.nsIn K mainGlobals "slip_lines" = some (some (.ref a15))) (l15 : K.lookup a15 = some ⟨oc15, od15, .func (PySem.W.fnOf "slip_lines" "slip_lines" (defArgs st_slip_lines) (defBody st_slip_lines) (defScope st_slip_lines) .none kV15 dc15 pm15 an15 cd15 ct15), sl15⟩) (c15 : PySem.W.codeIn K cd15 "slip_lines" = true) (k15 : PySem.W.keepIn K (.ref a15) = true)
    {a16 : Addr} {od16 an16 : Option Addr} {sl16 : Array (Option Value)} {oc16 kV16 dc16 pm16 cd16 ct16 : Value} (n16 : PySem.W.nsIn K mainGlobals "_law_same" = some (some (.ref a16))) (l16 : K.lookup a16 = some ⟨oc16, od16, .func (PySem.W.fnOf "_law_same" "_law_same" (defArgs st__law_same) (defBody st__law_same) (defScope st__law_same) .none kV16 dc16 pm16 an16 cd16 ct16), sl16⟩) (c16 : PySem.W.codeIn K cd16 "_law_same" = true) (k16 : PySem.W.keepIn K (.ref a16) = true)
    {a17 : Addr} {od17 an17 : Option Addr} {sl17 : Array (Option Value)} {oc17 kV17 dc17 pm17 cd17 ct17 : Value} (n17 : PySem.W.nsIn K mainGlobals "_law_refused" = some (some (.ref a17))) (l17 : K.lookup a17 = some ⟨oc17, od17, .func (PySem.W.fnOf "_law_refused" "_law_refused" (defArgs st__law_refused) (defBody st__law_refused) (defScope st__law_refused) .none kV17 dc17 pm17 an17 cd17 ct17), sl17⟩) (c17 : PySem.W.codeIn K cd17 "_law_refused" = true) (k17 : PySem.W.keepIn K (.ref a17) = true)
    {a18 : Addr} {od18 an18 : Option Addr} {sl18 : Array (Option Value)} {oc18 kV18 dc18 pm18 cd18 ct18 : Value} (n18 : PySem.W.nsIn K mainGlobals "_law_reads" = some (some (.ref a18))) (l18 : K.lookup a18 = some ⟨oc18, od18, .func (PySem.W.fnOf "_law_reads" "_law_reads" (defArgs st__law_reads) (defBody st__law_reads) (defScope st__law_reads) .none kV18 dc18 pm18 an18 cd18 ct18), sl18⟩) (c18 : PySem.W.codeIn K cd18 "_law_reads" = true) (k18 : PySem.W.keepIn K (.ref a18) = true)
    {a19 : Addr} {od19 an19 : Option Addr} {sl19 : Array (Option Value)} {oc19 kV19 dc19 pm19 cd19 ct19 : Value} (n19 : PySem.W.nsIn K mainGlobals "_law_kinds" = some (some (.ref a19))) (l19 : K.lookup a19 = some ⟨oc19, od19, .func (PySem.W.fnOf "_law_kinds" "_law_kinds" (defArgs st__law_kinds) (defBody st__law_kinds) (defScope st__law_kinds) .none kV19 dc19 pm19 an19 cd19 ct19), sl19⟩) (c19 : PySem.W.codeIn K cd19 "_law_kinds" = true) (k19 : PySem.W.keepIn K (.ref a19) = true)
    {a20 : Addr} {od20 an20 : Option Addr} {sl20 : Array (Option Value)} {oc20 kV20 dc20 pm20 cd20 ct20 : Value} (n20 : PySem.W.nsIn K mainGlobals "_law_bad" = some (some (.ref a20))) (l20 : K.lookup a20 = some ⟨oc20, od20, .func (PySem.W.fnOf "_law_bad" "_law_bad" (defArgs st__law_bad) (defBody st__law_bad) (defScope st__law_bad) .none kV20 dc20 pm20 an20 cd20 ct20), sl20⟩) (c20 : PySem.W.codeIn K cd20 "_law_bad" = true) (k20 : PySem.W.keepIn K (.ref a20) = true)
    {a21 : Addr} {od21 an21 : Option Addr} {sl21 : Array (Option Value)} {oc21 kV21 dc21 pm21 cd21 ct21 : Value} (n21 : PySem.W.nsIn K mainGlobals "_law_names" = some (some (.ref a21))) (l21 : K.lookup a21 = some ⟨oc21, od21, .func (PySem.W.fnOf "_law_names" "_law_names" (defArgs st__law_names) (defBody st__law_names) (defScope st__law_names) .none kV21 dc21 pm21 an21 cd21 ct21), sl21⟩) (c21 : PySem.W.codeIn K cd21 "_law_names" = true) (k21 : PySem.W.keepIn K (.ref a21) = true)
    {a22 : Addr} {od22 an22 : Option Addr} {sl22 : Array (Option Value)} {oc22 kV22 dc22 pm22 cd22 ct22 : Value} (n22 : PySem.W.nsIn K mainGlobals "_law_rows" = some (some (.ref a22))) (l22 : K.lookup a22 = some ⟨oc22, od22, .func (PySem.W.fnOf "_law_rows" "_law_rows" (defArgs st__law_rows) (defBody st__law_rows) (defScope st__law_rows) .none kV22 dc22 pm22 an22 cd22 ct22), sl22⟩) (c22 : PySem.W.codeIn K cd22 "_law_rows" = true) (k22 : PySem.W.keepIn K (.ref a22) = true)
    {a23 : Addr} {od23 an23 : Option Addr} {sl23 : Array (Option Value)} {oc23 kV23 dc23 pm23 cd23 ct23 : Value} (n23 : PySem.W.nsIn K mainGlobals "_law_heaps" = some (some (.ref a23))) (l23 : K.lookup a23 = some ⟨oc23, od23, .func (PySem.W.fnOf "_law_heaps" "_law_heaps" (defArgs st__law_heaps) (defBody st__law_heaps) (defScope st__law_heaps) .none kV23 dc23 pm23 an23 cd23 ct23), sl23⟩) (c23 : PySem.W.codeIn K cd23 "_law_heaps" = true) (k23 : PySem.W.keepIn K (.ref a23) = true)
    {a24 : Addr} {od24 an24 : Option Addr} {sl24 : Array (Option Value)} {oc24 kV24 dc24 pm24 cd24 ct24 : Value} (n24 : PySem.W.nsIn K mainGlobals "law" = some (some (.ref a24))) (l24 : K.lookup a24 = some ⟨oc24, od24, .func (PySem.W.fnOf "law" "law" (defArgs st_law) (defBody st_law) (defScope st_law) .none kV24 dc24 pm24 an24 cd24 ct24), sl24⟩) (c24 : PySem.W.codeIn K cd24 "law" = true) (k24 : PySem.W.keepIn K (.ref a24) = true)
    {cX0 fX0 : Addr} {nmX0 qX0 : Str} {NX0 : Addr} {bsX0 bmX0 : List Value} {snX0 : List Str} {subX0 : List Value} {abX0 : Bool} {colX0 : Option Bool} {ddX0 : Option Addr} {m0X0 m1X0 m2X0 m3X0 m5X0 : Option Value} {odX0 anX0 : Option Addr} {slX0 : Array (Option Value)} {ocX0 kVX0 dcX0 pmX0 cdX0 ctX0 : Value} (aCX0 : PySem.W.nsIn K mainGlobals "InvalidText" = some (some (.ref cX0))) (xLX0 : K.lookup cX0 = some (excClassObj nmX0 qX0 cX0 NX0 bsX0 bmX0 true snX0 subX0 abX0 colX0 ddX0 m0X0 m1X0 m2X0 m3X0 m5X0 "ValueError.__new__")) (rvX0 : PySem.HandSPX.refsVE bmX0 = true) (saX0 : PySem.W.findIn K (.ref cX0) "__setattr__" = some (some (.builtin "object.__setattr__"))) (gaX0 : PySem.W.findIn K (.ref cX0) "__getattribute__" = some (some (.builtin "BaseException.__getattribute__"))) (ggX0 : PySem.W.findIn K (.ref cX0) "__getattr__" = some none) (n0X0 : PySem.W.findIn K (.ref cX0) "line" = some none) (n1X0 : PySem.W.findIn K (.ref cX0) "field" = some none) (i1X0 : PySem.W.findIn K (.ref cX0) "__init__" = some (some (.ref fX0))) (t1X0 : PySem.W.typeIn K (.ref fX0) = some (.type "function")) (l1X0 : K.lookup fX0 = some ⟨ocX0, odX0, .func (PySem.W.fnOf "__init__" "InvalidText.__init__" (defArgs st_InvalidText) (defBody st_InvalidText) (defScope st_InvalidText) .none kVX0 dcX0 pmX0 anX0 cdX0 ctX0), slX0⟩) (c1X0 : PySem.W.codeIn K cdX0 "InvalidText.__init__" = true) (k1X0 : PySem.W.keepIn K (.ref fX0) = true) (kCX0 : PySem.W.keepIn K (.ref cX0) = true) (eCX0 : PySem.W.subIn K (.ref cX0) (.type "BaseException") = some true) (tCX0 : PySem.W.typeIn K (.ref cX0) = some (.type "type")) (hCX0 : PySem.W.hasDictIn K cX0 = true) (iCX0 : PySem.W.isClsIn K cX0 = true) (sCX0 : PySem.W.subIn K (.ref cX0) (.ref cX0) = some true)
     (o1X0 : PySem.W.findIn K (.ref cX0) "__class__" = some (some (.builtin "object.__class__"))) (o2X0 : PySem.W.specialIn K (.builtin "object.__class__") "__get__" = some (some (.builtin "getset_descriptor.__get__"))) (o3X0 : PySem.W.takesIn K (.builtin "object.__class__") = some true) (o4X0 : PySem.W.mroIn K cX0 (.type "object") = some true)
    {cX1 fX1 : Addr} {nmX1 qX1 : Str} {NX1 : Addr} {bsX1 bmX1 : List Value} {snX1 : List Str} {subX1 : List Value} {abX1 : Bool} {colX1 : Option Bool} {ddX1 : Option Addr} {m0X1 m1X1 m2X1 m3X1 m5X1 : Option Value} {odX1 anX1 : Option Addr} {slX1 : Array (Option Value)} {ocX1 kVX1 dcX1 pmX1 cdX1 ctX1 : Value} (aCX1 : PySem.W.nsIn K mainGlobals "NotUsable" = some (some (.ref cX1))) (xLX1 : K.lookup cX1 = some (excClassObj nmX1 qX1 cX1 NX1 bsX1 bmX1 true snX1 subX1 abX1 colX1 ddX1 m0X1 m1X1 m2X1 m3X1 m5X1 "ValueError.__new__")) (rvX1 : PySem.HandSPX.refsVE bmX1 = true) (saX1 : PySem.W.findIn K (.ref cX1) "__setattr__" = some (some (.builtin "object.__setattr__"))) (gaX1 : PySem.W.findIn K (.ref cX1) "__getattribute__" = some (some (.builtin "BaseException.__getattribute__"))) (ggX1 : PySem.W.findIn K (.ref cX1) "__getattr__" = some none) (n0X1 : PySem.W.findIn K (.ref cX1) "word" = some none) (n1X1 : PySem.W.findIn K (.ref cX1) "at" = some none) (i1X1 : PySem.W.findIn K (.ref cX1) "__init__" = some (some (.ref fX1))) (t1X1 : PySem.W.typeIn K (.ref fX1) = some (.type "function")) (l1X1 : K.lookup fX1 = some ⟨ocX1, odX1, .func (PySem.W.fnOf "__init__" "NotUsable.__init__" (defArgs st_NotUsable) (defBody st_NotUsable) (defScope st_NotUsable) .none kVX1 dcX1 pmX1 anX1 cdX1 ctX1), slX1⟩) (c1X1 : PySem.W.codeIn K cdX1 "NotUsable.__init__" = true) (k1X1 : PySem.W.keepIn K (.ref fX1) = true) (kCX1 : PySem.W.keepIn K (.ref cX1) = true) (eCX1 : PySem.W.subIn K (.ref cX1) (.type "BaseException") = some true) (tCX1 : PySem.W.typeIn K (.ref cX1) = some (.type "type")) (hCX1 : PySem.W.hasDictIn K cX1 = true) (iCX1 : PySem.W.isClsIn K cX1 = true) (sCX1 : PySem.W.subIn K (.ref cX1) (.ref cX1) = some true)
     (o1X1 : PySem.W.findIn K (.ref cX1) "__class__" = some (some (.builtin "object.__class__"))) (o2X1 : PySem.W.specialIn K (.builtin "object.__class__") "__get__" = some (some (.builtin "getset_descriptor.__get__"))) (o3X1 : PySem.W.takesIn K (.builtin "object.__class__") = some true) (o4X1 : PySem.W.mroIn K cX1 (.type "object") = some true)
    {b_BookError : Addr} (nb_BookError : PySem.W.nsIn K mainGlobals "BookError" = some (some (.ref b_BookError)))
    {b_TextError : Addr} (nb_TextError : PySem.W.nsIn K mainGlobals "TextError" = some (some (.ref b_TextError)))
    (is_InvalidText_TextError : PySem.W.kitOne K (.ref cX0) (.ref b_TextError) = some true)
    (is_InvalidText_ValueError : PySem.W.kitOne K (.ref cX0) (.type "ValueError") = some true)
    (is_NotUsable_BookError : PySem.W.kitOne K (.ref cX1) (.ref b_BookError) = some true)
    (is_NotUsable_ValueError : PySem.W.kitOne K (.ref cX1) (.type "ValueError") = some true)
    (z_ValueError : PySem.W.nsIn K mainGlobals "ValueError" = some none)
    (z_bool : PySem.W.nsIn K mainGlobals "bool" = some none)
    (z_enumerate : PySem.W.nsIn K mainGlobals "enumerate" = some none)
    (z_int : PySem.W.nsIn K mainGlobals "int" = some none)
    (z_isinstance : PySem.W.nsIn K mainGlobals "isinstance" = some none)
    (z_len : PySem.W.nsIn K mainGlobals "len" = some none)
    (z_list : PySem.W.nsIn K mainGlobals "list" = some none)
    (z_range : PySem.W.nsIn K mainGlobals "range" = some none)
    (z_str : PySem.W.nsIn K mainGlobals "str" = some none)
    (z_tuple : PySem.W.nsIn K mainGlobals "tuple" = some none) :
    ∃ fd : FuncData, (∀ (s : Shared) (v : Value), BindsTo s fd ⟨[v], []⟩ [("_law_script", v)]) ∧ ∀ base : Heap, K.In base → base.Ns mainGlobals mg → FnOk l.prog w K mg base CX0 10 fa fd ["_law_script"] (spF K S_law) := by
  have e := Value.ref.inj (Option.some.inj (hfa.symm.trans (PySem.W.mg_of X G n24)))
  rw [e]
  exact ⟨PySem.W.fnOf "law" "law" (defArgs st_law) (defBody st_law) (defScope st_law) .none kV24 dc24 pm24 an24 cd24 ct24, fun s v => .of_eq rfl, fun base _ _ => ok_law (P := l.prog) (w := w) (base := base) ({ a__is_name := a0, d__is_name := PySem.W.fnOf "_is_name" "_is_name" (defArgs st__is_name) (defBody st__is_name) (defScope st__is_name) .none kV0 dc0 pm0 an0 cd0 ct0, m__is_name := PySem.W.mg_of X G n0, k__is_name := k0, f__is_name := fun_mk (st := st__is_name) l0 c0 k0, b__is_name := (fun_mk (st := st__is_name) l0 c0 k0).binds (ps := ["thing"]) (fun _ _ _ _ _ _ us hl => match us, hl with | [_], _ => rfl), a__are_lines := a1, d__are_lines := PySem.W.fnOf "_are_lines" "_are_lines" (defArgs st__are_lines) (defBody st__are_lines) (defScope st__are_lines) .none kV1 dc1 pm1 an1 cd1 ct1, m__are_lines := PySem.W.mg_of X G n1, k__are_lines := k1, f__are_lines := fun_mk (st := st__are_lines) l1 c1 k1, b__are_lines := (fun_mk (st := st__are_lines) l1 c1 k1).binds (ps := ["thing"]) (fun _ _ _ _ _ _ us hl => match us, hl with | [_], _ => rfl), a__law_num := a2, d__law_num := PySem.W.fnOf "_law_num" "_law_num" (defArgs st__law_num) (defBody st__law_num) (defScope st__law_num) .none kV2 dc2 pm2 an2 cd2 ct2, m__law_num := PySem.W.mg_of X G n2, k__law_num := k2, f__law_num := fun_mk (st := st__law_num) l2 c2 k2, b__law_num := (fun_mk (st := st__law_num) l2 c2 k2).binds (ps := ["_law_script", "_law_k", "_law_limit"]) (fun _ _ _ _ _ _ us hl => match us, hl with | [_, _, _], _ => rfl), a__law_called := a3, d__law_called := PySem.W.fnOf "_law_called" "_law_called" (defArgs st__law_called) (defBody st__law_called) (defScope st__law_called) .none kV3 dc3 pm3 an3 cd3 ct3, m__law_called := PySem.W.mg_of X G n3, k__law_called := k3, f__law_called := fun_mk (st := st__law_called) l3 c3 k3, b__law_called := (fun_mk (st := st__law_called) l3 c3 k3).binds (ps := ["_law_pairs_here"]) (fun _ _ _ _ _ _ us hl => match us, hl with | [_], _ => rfl), a__law_parts := a4, d__law_parts := PySem.W.fnOf "_law_parts" "_law_parts" (defArgs st__law_parts) (defBody st__law_parts) (defScope st__law_parts) .none kV4 dc4 pm4 an4 cd4 ct4, m__law_parts := PySem.W.mg_of X G n4, k__law_parts := k4, f__law_parts := fun_mk (st := st__law_parts) l4 c4 k4, b__law_parts := (fun_mk (st := st__law_parts) l4 c4 k4).binds (ps := ["_law_told"]) (fun _ _ _ _ _ _ us hl => match us, hl with | [_], _ => rfl), a__law_bad_slips := a5, d__law_bad_slips := PySem.W.fnOf "_law_bad_slips" "_law_bad_slips" (defArgs st__law_bad_slips) (defBody st__law_bad_slips) (defScope st__law_bad_slips) .none kV5 dc5 pm5 an5 cd5 ct5, m__law_bad_slips := PySem.W.mg_of X G n5, k__law_bad_slips := k5, f__law_bad_slips := fun_mk (st := st__law_bad_slips) l5 c5 k5, b__law_bad_slips := (fun_mk (st := st__law_bad_slips) l5 c5 k5).binds (ps := []) (fun _ _ _ _ _ _ us hl => match us, hl with | [], _ => rfl), a_is_slip := a6, d_is_slip := PySem.W.fnOf "is_slip" "is_slip" (defArgs st_is_slip) (defBody st_is_slip) (defScope st_is_slip) .none kV6 dc6 pm6 an6 cd6 ct6, m_is_slip := PySem.W.mg_of X G n6, k_is_slip := k6, f_is_slip := fun_mk (st := st_is_slip) l6 c6 k6, b_is_slip := (fun_mk (st := st_is_slip) l6 c6 k6).binds (ps := ["thing"]) (fun _ _ _ _ _ _ us hl => match us, hl with | [_], _ => rfl), kb_is_slip_thing := KwB.of (fun ws hl => match ws, hl with | [_], _ => rfl), a__are_names := a7, d__are_names := PySem.W.fnOf "_are_names" "_are_names" (defArgs st__are_names) (defBody st__are_names) (defScope st__are_names) .none kV7 dc7 pm7 an7 cd7 ct7, m__are_names := PySem.W.mg_of X G n7, k__are_names := k7, f__are_names := fun_mk (st := st__are_names) l7 c7 k7, b__are_names := (fun_mk (st := st__are_names) l7 c7 k7).binds (ps := ["thing"]) (fun _ _ _ _ _ _ us hl => match us, hl with | [_], _ => rfl), a_read_slips := a8, d_read_slips := PySem.W.fnOf "read_slips" "read_slips" (defArgs st_read_slips) (defBody st_read_slips) (defScope st_read_slips) .none kV8 dc8 pm8 an8 cd8 ct8, m_read_slips := PySem.W.mg_of X G n8, k_read_slips := k8, f_read_slips := fun_mk (st := st_read_slips) l8 c8 k8, b_read_slips := (fun_mk (st := st_read_slips) l8 c8 k8).binds (ps := ["lines"]) (fun _ _ _ _ _ _ us hl => match us, hl with | [_], _ => rfl), kb_read_slips_lines := KwB.of (fun ws hl => match ws, hl with | [_], _ => rfl), a__law_name := a9, d__law_name := PySem.W.fnOf "_law_name" "_law_name" (defArgs st__law_name) (defBody st__law_name) (defScope st__law_name) .none kV9 dc9 pm9 an9 cd9 ct9, m__law_name := PySem.W.mg_of X G n9, k__law_name := k9, f__law_name := fun_mk (st := st__law_name) l9 c9 k9, b__law_name := (fun_mk (st := st__law_name) l9 c9 k9).binds (ps := ["_law_script", "_law_k"]) (fun _ _ _ _ _ _ us hl => match us, hl with | [_, _], _ => rfl), a__law_read := a10, d__law_read := PySem.W.fnOf "_law_read" "_law_read" (defArgs st__law_read) (defBody st__law_read) (defScope st__law_read) .none kV10 dc10 pm10 an10 cd10 ct10, m__law_read := PySem.W.mg_of X G n10, k__law_read := k10, f__law_read := fun_mk (st := st__law_read) l10 c10 k10, b__law_read := (fun_mk (st := st__law_read) l10 c10 k10).binds (ps := ["_law_rows_here"]) (fun _ _ _ _ _ _ us hl => match us, hl with | [_], _ => rfl), a_slips_of := a11, d_slips_of := PySem.W.fnOf "slips_of" "slips_of" (defArgs st_slips_of) (defBody st_slips_of) (defScope st_slips_of) .none kV11 dc11 pm11 an11 cd11 ct11, m_slips_of := PySem.W.mg_of X G n11, k_slips_of := k11, f_slips_of := fun_mk (st := st_slips_of) l11 c11 k11, b_slips_of := (fun_mk (st := st_slips_of) l11 c11 k11).binds (ps := ["names", "heap"]) (fun _ _ _ _ _ _ us hl => match us, hl with | [_, _], _ => rfl), kb_slips_of_heap_names := KwB.of (fun ws hl => match ws, hl with | [_, _], _ => rfl), a__are_slips := a12, d__are_slips := PySem.W.fnOf "_are_slips" "_are_slips" (defArgs st__are_slips) (defBody st__are_slips) (defScope st__are_slips) .none kV12 dc12 pm12 an12 cd12 ct12, m__are_slips := PySem.W.mg_of X G n12, k__are_slips := k12, f__are_slips := fun_mk (st := st__are_slips) l12 c12 k12, b__are_slips := (fun_mk (st := st__are_slips) l12 c12 k12).binds (ps := ["thing"]) (fun _ _ _ _ _ _ us hl => match us, hl with | [_], _ => rfl), a__law_pairs := a13, d__law_pairs := PySem.W.fnOf "_law_pairs" "_law_pairs" (defArgs st__law_pairs) (defBody st__law_pairs) (defScope st__law_pairs) .none kV13 dc13 pm13 an13 cd13 ct13, m__law_pairs := PySem.W.mg_of X G n13, k__law_pairs := k13, f__law_pairs := fun_mk (st := st__law_pairs) l13 c13 k13, b__law_pairs := (fun_mk (st := st__law_pairs) l13 c13 k13).binds (ps := ["_law_script"]) (fun _ _ _ _ _ _ us hl => match us, hl with | [_], _ => rfl), a_heap_of := a14, d_heap_of := PySem.W.fnOf "heap_of" "heap_of" (defArgs st_heap_of) (defBody st_heap_of) (defScope st_heap_of) .none kV14 dc14 pm14 an14 cd14 ct14, m_heap_of := PySem.W.mg_of X G n14, k_heap_of := k14, f_heap_of := fun_mk (st := st_heap_of) l14 c14 k14, b_heap_of := (fun_mk (st := st_heap_of) l14 c14 k14).binds (ps := ["slips"]) (fun _ _ _ _ _ _ us hl => match us, hl with | [_], _ => rfl), kb_heap_of_slips := KwB.of (fun ws hl => match ws, hl with | [_], _ => rfl), a_slip_lines := a15, d_slip_lines := PySem.W.fnOf "slip_lines" "slip_lines" (defArgs st_slip_lines) (defBody st_slip_lines) (defScope st_slip_lines) .none kV15 dc15 pm15 an15 cd15 ct15, m_slip_lines := PySem.W.mg_of X G n15, k_slip_lines := k15, f_slip_lines := fun_mk (st := st_slip_lines) l15 c15 k15, b_slip_lines := (fun_mk (st := st_slip_lines) l15 c15 k15).binds (ps := ["slips"]) (fun _ _ _ _ _ _ us hl => match us, hl with | [_], _ => rfl), kb_slip_lines_slips := KwB.of (fun ws hl => match ws, hl with | [_], _ => rfl), a__law_same := a16, d__law_same := PySem.W.fnOf "_law_same" "_law_same" (defArgs st__law_same) (defBody st__law_same) (defScope st__law_same) .none kV16 dc16 pm16 an16 cd16 ct16, m__law_same := PySem.W.mg_of X G n16, k__law_same := k16, f__law_same := fun_mk (st := st__law_same) l16 c16 k16, b__law_same := (fun_mk (st := st__law_same) l16 c16 k16).binds (ps := ["_law_got", "_law_due"]) (fun _ _ _ _ _ _ us hl => match us, hl with | [_, _], _ => rfl), a__law_refused := a17, d__law_refused := PySem.W.fnOf "_law_refused" "_law_refused" (defArgs st__law_refused) (defBody st__law_refused) (defScope st__law_refused) .none kV17 dc17 pm17 an17 cd17 ct17, m__law_refused := PySem.W.mg_of X G n17, k__law_refused := k17, f__law_refused := fun_mk (st := st__law_refused) l17 c17 k17, b__law_refused := (fun_mk (st := st__law_refused) l17 c17 k17).binds (ps := ["_law_which", "_law_first", "_law_second", "_law_told"]) (fun _ _ _ _ _ _ us hl => match us, hl with | [_, _, _, _], _ => rfl), a__law_reads := a18, d__law_reads := PySem.W.fnOf "_law_reads" "_law_reads" (defArgs st__law_reads) (defBody st__law_reads) (defScope st__law_reads) .none kV18 dc18 pm18 an18 cd18 ct18, m__law_reads := PySem.W.mg_of X G n18, k__law_reads := k18, f__law_reads := fun_mk (st := st__law_reads) l18 c18 k18, b__law_reads := (fun_mk (st := st__law_reads) l18 c18 k18).binds (ps := ["_law_rows_here"]) (fun _ _ _ _ _ _ us hl => match us, hl with | [_], _ => rfl), a__law_kinds := a19, d__law_kinds := PySem.W.fnOf "_law_kinds" "_law_kinds" (defArgs st__law_kinds) (defBody st__law_kinds) (defScope st__law_kinds) .none kV19 dc19 pm19 an19 cd19 ct19, m__law_kinds := PySem.W.mg_of X G n19, k__law_kinds := k19, f__law_kinds := fun_mk (st := st__law_kinds) l19 c19 k19, b__law_kinds := (fun_mk (st := st__law_kinds) l19 c19 k19).binds (ps := ["_law_pairs_here"]) (fun _ _ _ _ _ _ us hl => match us, hl with | [_], _ => rfl), a__law_bad := a20, d__law_bad := PySem.W.fnOf "_law_bad" "_law_bad" (defArgs st__law_bad) (defBody st__law_bad) (defScope st__law_bad) .none kV20 dc20 pm20 an20 cd20 ct20, m__law_bad := PySem.W.mg_of X G n20, k__law_bad := k20, f__law_bad := fun_mk (st := st__law_bad) l20 c20 k20, b__law_bad := (fun_mk (st := st__law_bad) l20 c20 k20).binds (ps := ["_law_script", "_law_pairs_here"]) (fun _ _ _ _ _ _ us hl => match us, hl with | [_, _], _ => rfl), a__law_names := a21, d__law_names := PySem.W.fnOf "_law_names" "_law_names" (defArgs st__law_names) (defBody st__law_names) (defScope st__law_names) .none kV21 dc21 pm21 an21 cd21 ct21, m__law_names := PySem.W.mg_of X G n21, k__law_names := k21, f__law_names := fun_mk (st := st__law_names) l21 c21 k21, b__law_names := (fun_mk (st := st__law_names) l21 c21 k21).binds (ps := ["_law_script", "_law_anew", "_law_wider"]) (fun _ _ _ _ _ _ us hl => match us, hl with | [_, _, _], _ => rfl), a__law_rows := a22, d__law_rows := PySem.W.fnOf "_law_rows" "_law_rows" (defArgs st__law_rows) (defBody st__law_rows) (defScope st__law_rows) .none kV22 dc22 pm22 an22 cd22 ct22, m__law_rows := PySem.W.mg_of X G n22, k__law_rows := k22, f__law_rows := fun_mk (st := st__law_rows) l22 c22 k22, b__law_rows := (fun_mk (st := st__law_rows) l22 c22 k22).binds (ps := ["_law_script", "_law_pairs_here"]) (fun _ _ _ _ _ _ us hl => match us, hl with | [_, _], _ => rfl), a__law_heaps := a23, d__law_heaps := PySem.W.fnOf "_law_heaps" "_law_heaps" (defArgs st__law_heaps) (defBody st__law_heaps) (defScope st__law_heaps) .none kV23 dc23 pm23 an23 cd23 ct23, m__law_heaps := PySem.W.mg_of X G n23, k__law_heaps := k23, f__law_heaps := fun_mk (st := st__law_heaps) l23 c23 k23, b__law_heaps := (fun_mk (st := st__law_heaps) l23 c23 k23).binds (ps := ["_law_script", "_law_pairs_here"]) (fun _ _ _ _ _ _ us hl => match us, hl with | [_, _], _ => rfl), a_law := a24, d_law := PySem.W.fnOf "law" "law" (defArgs st_law) (defBody st_law) (defScope st_law) .none kV24 dc24 pm24 an24 cd24 ct24, m_law := PySem.W.mg_of X G n24, k_law := k24, f_law := fun_mk (st := st_law) l24 c24 k24, b_law := (fun_mk (st := st_law) l24 c24 k24).binds (ps := ["_law_script"]) (fun _ _ _ _ _ _ us hl => match us, hl with | [_], _ => rfl), ec_InvalidText := ⟨gaX0, ggX0, eCX0, hCX0, o1X0, o2X0, o3X0, o4X0⟩, C_InvalidText := cX0, fI_InvalidText := fX0, dI_InvalidText := PySem.W.fnOf "__init__" "InvalidText.__init__" (defArgs st_InvalidText) (defBody st_InvalidText) (defScope st_InvalidText) .none kVX0 dcX0 pmX0 anX0 cdX0 ctX0, gC_InvalidText := PySem.W.mg_of X G aCX0, oex_InvalidText := ⟨⟨_, _, _, _, _, _, _, _, _, _, _, _, _, _, _, xLX0, rvX0⟩, saX0, eCX0, tCX0, kCX0⟩, xf_InvalidText := ⟨gaX0, ggX0, eCX0, hCX0⟩, te_InvalidText := exm_own eCX0 iCX0 tCX0 sCX0, iC_InvalidText := i1X0, tI_InvalidText := t1X0, FI_InvalidText := fun_mk (st := st_InvalidText) l1X0 c1X0 k1X0, bI_InvalidText := (fun_mk (st := st_InvalidText) l1X0 c1X0 k1X0).binds (ps := ["self", "line", "field"]) (fun _ _ _ _ _ _ us hl => match us, hl with | [_, _, _], _ => rfl), n_InvalidText_line := n0X0, n_InvalidText_field := n1X0, ec_NotUsable := ⟨gaX1, ggX1, eCX1, hCX1, o1X1, o2X1, o3X1, o4X1⟩, C_NotUsable := cX1, fI_NotUsable := fX1, dI_NotUsable := PySem.W.fnOf "__init__" "NotUsable.__init__" (defArgs st_NotUsable) (defBody st_NotUsable) (defScope st_NotUsable) .none kVX1 dcX1 pmX1 anX1 cdX1 ctX1, gC_NotUsable := PySem.W.mg_of X G aCX1, oex_NotUsable := ⟨⟨_, _, _, _, _, _, _, _, _, _, _, _, _, _, _, xLX1, rvX1⟩, saX1, eCX1, tCX1, kCX1⟩, xf_NotUsable := ⟨gaX1, ggX1, eCX1, hCX1⟩, te_NotUsable := exm_own eCX1 iCX1 tCX1 sCX1, iC_NotUsable := i1X1, tI_NotUsable := t1X1, FI_NotUsable := fun_mk (st := st_NotUsable) l1X1 c1X1 k1X1, bI_NotUsable := (fun_mk (st := st_NotUsable) l1X1 c1X1 k1X1).binds (ps := ["self", "word", "at"]) (fun _ _ _ _ _ _ us hl => match us, hl with | [_, _, _], _ => rfl), n_NotUsable_word := n0X1, n_NotUsable_at := n1X1, B_BookError := b_BookError, gB_BookError := PySem.W.mg_of X G nb_BookError, B_TextError := b_TextError, gB_TextError := PySem.W.mg_of X G nb_TextError, is_InvalidText_TextError := is_InvalidText_TextError, is_InvalidText_ValueError := is_InvalidText_ValueError, is_NotUsable_BookError := is_NotUsable_BookError, is_NotUsable_ValueError := is_NotUsable_ValueError, z_ValueError := PySem.W.mg_none_of X G z_ValueError, z_bool := PySem.W.mg_none_of X G z_bool, z_enumerate := PySem.W.mg_none_of X G z_enumerate, z_int := PySem.W.mg_none_of X G z_int, z_isinstance := PySem.W.mg_none_of X G z_isinstance, z_len := PySem.W.mg_none_of X G z_len, z_list := PySem.W.mg_none_of X G z_list, z_range := PySem.W.mg_none_of X G z_range, z_str := PySem.W.mg_none_of X G z_str, z_tuple := PySem.W.mg_none_of X G z_tuple } : Tx K mg)⟩
theorem walk {l : PySem.W.OpenLaw} {q : Program} {loose : List Str} {XP : (Str → Option Value) → Heap → Prop} {YP : World → Heap → Prop} {d : DefRec} {K : Params → PySem.W.Frag} (hn : l.most = some 63) (hdf : d.params.defaults = [])
    (hY : ∀ (w : World) (h : Heap), YP w h → (K w.params).In h)
    (F : ∀ (w : World) (mg : Str → Option Value) (fa : Addr) (h : Heap), (K w.params).In h → h.Ns mainGlobals mg → mg d.name = some (.ref fa) →
      ∃ fd : FuncData, (∀ (s : Shared) (u : Value), BindsTo s fd ⟨[u], []⟩ [("_law_script", u)]) ∧ ∀ base : Heap, (K w.params).In base → base.Ns mainGlobals mg → FnOk l.prog w (K w.params) mg base CX0 10 fa fd ["_law_script"] (spF (K w.params) S_law)) :
    PySem.W.WalkO q loose XP YP l.row.toRowW d [] (fun f vs => PySem.call f vs) :=
  L2.walk_of (n := 63) (k := 10) (x := "_law_script") (CX := fun _ => CX0) (sp := fun w => spF (K w.params) S_law) hn (by decide) hdf ⟨rfl, by decide, by decide⟩ hY F (fun _ H a ns hl _ hS => spF_law law_pure H a ns _ hl hS) fun _ _ _ _ _ z => z
end LawK36
open PySem PySem.W PyProof.Rows
set_option maxRecDepth 100000 in
set_option maxHeartbeats 0 in
theorem PySem.Challenge.cw_unsewn_k36_whole_slips_there_and_back_holds : PySem.Challenge.rw_unsewn_k36_whole_slips_there_and_back.Holds := by
  w_on; o_law; k_head; (case hw => w_witness2)
  k_fill
  refine LawK36.walk (l := PySem.Challenge.rw_unsewn_k36_whole_slips_there_and_back) rfl rfl (fun w h Y => PySem.W.kIn_of Y) ?F
  case F =>
    intro w mg fa h KX G hmg
    refine' LawK36.all_mk KX G hmg ?n0 ?l0 ?c0 ?k0 ?n1 ?l1 ?c1 ?k1 ?n2 ?l2 ?c2 ?k2 ?n3 ?l3 ?c3 ?k3 ?n4 ?l4 ?c4 ?k4 ?n5 ?l5 ?c5 ?k5 ?n6 ?l6 ?c6 ?k6 ?n7 ?l7 ?c7 ?k7 ?n8 ?l8 ?c8 ?k8 ?n9 ?l9 ?c9 ?k9 ?n10 ?l10 ?c10 ?k10 ?n11 ?l11 ?c11 ?k11 ?n12 ?l12 ?c12 ?k12 ?n13 ?l13 ?c13 ?k13 ?n14 ?l14 ?c14 ?k14 ?n15 ?l15 ?c15 ?k15 ?n16 ?l16 ?c16 ?k16 ?n17 ?l17 ?c17 ?k17 ?n18 ?l18 ?c18 ?k18 ?n19 ?l19 ?c19 ?k19 ?n20 ?l20 ?c20 ?k20 ?n21 ?l21 ?c21 ?k21 ?n22 ?l22 ?c22 ?k22 ?n23 ?l23 ?c23 ?k23 ?n24 ?l24 ?c24 ?k24 ?o1X0 ?o2X0 ?o3X0 ?o4X0 ?aCX0 ?xLX0 ?rvX0 ?saX0 ?gaX0 ?ggX0 ?n0X0 ?n1X0 ?i1X0 ?t1X0 ?l1X0 ?c1X0 ?k1X0 ?kCX0 ?eCX0 ?tCX0 ?hCX0 ?iCX0 ?sCX0 ?o1X1 ?o2X1 ?o3X1 ?o4X1 ?aCX1 ?xLX1 ?rvX1 ?saX1 ?gaX1 ?ggX1 ?n0X1 ?n1X1 ?i1X1 ?t1X1 ?l1X1 ?c1X1 ?k1X1 ?kCX1 ?eCX1 ?tCX1 ?hCX1 ?iCX1 ?sCX1 ?nb_BookError ?nb_TextError ?is_InvalidText_TextError ?is_InvalidText_ValueError ?is_NotUsable_BookError ?is_NotUsable_ValueError ?z_ValueError ?z_bool ?z_enumerate ?z_int ?z_isinstance ?z_len ?z_list ?z_range ?z_str ?z_tuple
    (case n0 => k_is); (case l0 => k_is); (case c0 => k_is); (case k0 => k_is)
    (case n1 => k_is); (case l1 => k_is); (case c1 => k_is); (case k1 => k_is)
    (case n2 => k_is); (case l2 => k_is); (case c2 => k_is); (case k2 => k_is)
    (case n3 => k_is); (case l3 => k_is); (case c3 => k_is); (case k3 => k_is)
    (case n4 => k_is); (case l4 => k_is); (case c4 => k_is); (case k4 => k_is)
    (case n5 => k_is); (case l5 => k_is); (case c5 => k_is); (case k5 => k_is)
    (case n6 => k_is); (case l6 => k_is); (case c6 => k_is); (case k6 => k_is)
    (case n7 => k_is); (case l7 => k_is); (case c7 => k_is); (case k7 => k_is)
    (case n8 => k_is); (case l8 => k_is); (case c8 => k_is); (case k8 => k_is)
    (case n9 => k_is); (case l9 => k_is); (case c9 => k_is); (case k9 => k_is)
    (case n10 => k_is); (case l10 => k_is); (case c10 => k_is); (case k10 => k_is)
    (case n11 => k_is); (case l11 => k_is); (case c11 => k_is); (case k11 => k_is)
    (case n12 => k_is); (case l12 => k_is); (case c12 => k_is); (case k12 => k_is)
    (case n13 => k_is); (case l13 => k_is); (case c13 => k_is); (case k13 => k_is)
    (case n14 => k_is); (case l14 => k_is); (case c14 => k_is); (case k14 => k_is)
    (case n15 => k_is); (case l15 => k_is); (case c15 => k_is); (case k15 => k_is)
    (case n16 => k_is); (case l16 => k_is); (case c16 => k_is); (case k16 => k_is)
    (case n17 => k_is); (case l17 => k_is); (case c17 => k_is); (case k17 => k_is)
    (case n18 => k_is); (case l18 => k_is); (case c18 => k_is); (case k18 => k_is)
    (case n19 => k_is); (case l19 => k_is); (case c19 => k_is); (case k19 => k_is)
    (case n20 => k_is); (case l20 => k_is); (case c20 => k_is); (case k20 => k_is)
    (case n21 => k_is); (case l21 => k_is); (case c21 => k_is); (case k21 => k_is)
    (case n22 => k_is); (case l22 => k_is); (case c22 => k_is); (case k22 => k_is)
    (case n23 => k_is); (case l23 => k_is); (case c23 => k_is); (case k23 => k_is)
    (case n24 => k_is); (case l24 => k_is); (case c24 => k_is); (case k24 => k_is)
    (case o1X0 => k_is); (case o2X0 => k_is); (case o3X0 => first | k_is | rfl | (with_unfolding_all rfl) | decide +kernel); (case o4X0 => k_is)
    (case aCX0 => k_is); (case xLX0 => k_is); (case rvX0 => rfl); (case saX0 => k_is)
    (case gaX0 => k_is); (case ggX0 => k_is); (case n0X0 => k_is); (case n1X0 => k_is)
    (case i1X0 => k_is); (case t1X0 => k_is); (case l1X0 => k_is); (case c1X0 => k_is)
    (case k1X0 => k_is); (case kCX0 => k_is); (case eCX0 => k_is); (case tCX0 => k_is)
    (case hCX0 => k_is); (case iCX0 => k_is); (case sCX0 => first | rfl | k_is); (case o1X1 => k_is)
    (case o2X1 => k_is); (case o3X1 => first | k_is | rfl | (with_unfolding_all rfl) | decide +kernel); (case o4X1 => k_is); (case aCX1 => k_is)
    (case xLX1 => k_is); (case rvX1 => rfl); (case saX1 => k_is); (case gaX1 => k_is)
    (case ggX1 => k_is); (case n0X1 => k_is); (case n1X1 => k_is); (case i1X1 => k_is)
    (case t1X1 => k_is); (case l1X1 => k_is); (case c1X1 => k_is); (case k1X1 => k_is)
    (case kCX1 => k_is); (case eCX1 => k_is); (case tCX1 => k_is); (case hCX1 => k_is)
    (case iCX1 => k_is); (case sCX1 => first | rfl | k_is); (case nb_BookError => k_is); (case nb_TextError => k_is)
    (case is_InvalidText_TextError => kit_is); (case is_InvalidText_ValueError => kit_is); (case is_NotUsable_BookError => kit_is); (case is_NotUsable_ValueError => kit_is)
    (case z_ValueError => k_is); (case z_bool => k_is); (case z_enumerate => k_is); (case z_int => k_is)
    (case z_isinstance => k_is); (case z_len => k_is); (case z_list => k_is); (case z_range => k_is)
    (case z_str => k_is); (case z_tuple => k_is)

