import PyProof.Rows.All
import Wide.All
import OpenK.AllK
import Wide.FinOn
import HandS.ForMost
import HandS.ForExc
import HandS.Wide
import HandS.IsInst
import KE.DataEq
import HandS.TupAny
import PySem.Challenge.RW_markrun_k02_taken
set_option Elab.async false
set_option linter.all false
set_option maxRecDepth 100000
set_option maxHeartbeats 2000000
/-! Dn: the data of a program's values, lists and dicts told by value; who owns what. -/
namespace Dn
open PySem L2

/-- data: what a value tells, with all that stands below it -/
inductive D where
  | non
  | bl (b : Bool)
  | int (i : Int)
  | str (s : Str)
  | tup (ds : List D)
  | lst (ds : List D)
  | dct (ks : List Key) (ds : List D)
  | obj (c : Nat) (ns : List Str) (ds : List D)
  /-- the script -/
  | scr (ns : List Int)
  /-- a built-in class, a class of the program's own -/
  | ty (n : String)
  | cls (c : Nat)

mutual
/-- no list, dict or instance within -/
def D.imm : D → Bool
  | .non => true
  | .bl _ => true
  | .int _ => true
  | .str _ => true
  | .tup ds => D.imms ds
  | .lst _ => false
  | .dct _ _ => false
  | .obj _ _ _ => false
  | .scr _ => true
  | .ty _ => true
  | .cls _ => true
def D.imms : List D → Bool
  | [] => true
  | d :: ds => d.imm && D.imms ds
end

/-- what is fixed for a program's run: the written part, the classes' addresses -/
structure Cts where
  K : PySem.W.Frag
  cls : Nat → Addr

/-- a list that nobody may change -/
def ScrL (K : PySem.W.Frag) (H : Hp) (a : Addr) (xs : List V) : Prop :=
  (∃ o, H a = some (.frz o (.lst xs))) ∨ ∃ (o : Obj) (its : Array Value) (n : Nat), K.lookup a = some o ∧ o.cls = .type "list" ∧ o.dict = none ∧ o.data = .seq its n ∧ its.size ≤ sizeLine ∧ Vals xs its.toList
theorem ScrL.seq {K : PySem.W.Frag} {H : Hp} {a : Addr} {xs : List V} (h : ScrL K H a xs) : SqL K H a xs := by
  rcases h with h | h
  · exact .inl (.inr h)
  · exact .inr h
mutual
/-- the value tells the data, read only; no list, dict or instance on the way stands at an avoided address -/
def Rep (G : Cts) (av : Addr → Prop) (H : Hp) : D → V → Prop
  | .non, v => v = .non
  | .bl b, v => v = .bl b
  | .int i, v => v = .int i
  | .str s, v => v = .str s
  | .tup ds, v => ∃ a vs, v = .ref a ∧ SqT G.K H a vs ∧ Reps G av H ds vs
  | .lst ds, v => ∃ a vs, v = .ref a ∧ ¬ av a ∧ H a = some (.lst vs) ∧ Reps G av H ds vs
  | .dct ks ds, v => ∃ a kvs, v = .ref a ∧ ¬ av a ∧ Rd H a (.dK kvs) ∧ kvs.map (·.1) = ks ∧ Reps G av H ds (kvs.map (·.2))
  | .obj c ns ds, v => ∃ a dx fs, v = .ref a ∧ ¬ av a ∧ H a = some (.ins (G.cls c) dx fs) ∧ fs.map (·.1) = ns ∧ Reps G av H ds (fs.map (·.2))
  | .scr ns, v => ∃ a, v = .ref a ∧ ScrL G.K H a (ns.map V.int)
  | .ty n, v => v = .ty n
  | .cls c, v => v = .ref (G.cls c)
def Reps (G : Cts) (av : Addr → Prop) (H : Hp) : List D → List V → Prop
  | [], vs => vs = []
  | d :: ds, vs => ∃ v r, vs = v :: r ∧ Rep G av H d v ∧ Reps G av H ds r
end

mutual
/-- .. and all that may change below it stands just at the addresses of a list, from the top down -/
def OT (G : Cts) (H : Hp) : D → V → List Addr → Prop
  | .non, v, fp => v = .non ∧ fp = []
  | .bl b, v, fp => v = .bl b ∧ fp = []
  | .int i, v, fp => v = .int i ∧ fp = []
  | .str s, v, fp => v = .str s ∧ fp = []
  | .tup ds, v, fp => ∃ a vs, v = .ref a ∧ SqT G.K H a vs ∧ OTs G H ds vs fp
  | .lst ds, v, fp => ∃ a vs f, v = .ref a ∧ fp = a :: f ∧ H a = some (.lst vs) ∧ OTs G H ds vs f
  | .dct ks ds, v, fp => ∃ a kvs f, v = .ref a ∧ fp = a :: f ∧ H a = some (.dK kvs) ∧ kvs.map (·.1) = ks ∧ OTs G H ds (kvs.map (·.2)) f
  | .obj c ns ds, v, fp => ∃ a dx fs f, v = .ref a ∧ fp = a :: f ∧ H a = some (.ins (G.cls c) dx fs) ∧ fs.map (·.1) = ns ∧ OTs G H ds (fs.map (·.2)) f
  | .scr ns, v, fp => (∃ a, v = .ref a ∧ ScrL G.K H a (ns.map V.int)) ∧ fp = []
  | .ty n, v, fp => v = .ty n ∧ fp = []
  | .cls c, v, fp => v = .ref (G.cls c) ∧ fp = []
def OTs (G : Cts) (H : Hp) : List D → List V → List Addr → Prop
  | [], vs, fp => vs = [] ∧ fp = []
  | d :: ds, vs, fp => ∃ v r f g, vs = v :: r ∧ fp = f ++ g ∧ OT G H d v f ∧ OTs G H ds r g
end

/-- all tuples stay -/
def Tk (G : Cts) (H H' : Hp) : Prop := (∀ a xs, SqT G.K H a xs → SqT G.K H' a xs) ∧ ∀ a xs, ScrL G.K H a xs → ScrL G.K H' a xs
/-- all that is not avoided stays -/
def Av (av : Addr → Prop) (H H' : Hp) : Prop := ∀ a o, ¬ av a → H a = some o → H' a = some o
abbrev Nav : Addr → Prop := fun _ => False

section
variable {G : Cts} {av av' : Addr → Prop} {H H' : Hp}

theorem rd_av (k : Av av H H') {a : Addr} {u : HO} (n : ¬ av a) (h : Rd H a u) : Rd H' a u := by
  rcases h with h | ⟨o, h⟩
  · exact .inl (k a _ n h)
  · exact .inr ⟨o, k a _ n h⟩
theorem rd_some {a : Addr} {u : HO} (h : Rd H a u) : ∃ o, H a = some o := by
  rcases h with h | ⟨o, h⟩
  · exact ⟨_, h⟩
  · exact ⟨_, h⟩

mutual
theorem Rep.ext (t : Tk G H H') (k : Av av H H') : ∀ (d : D) (v : V), Rep G av H d v → Rep G av H' d v
  | .non, v, h => h
  | .bl _, v, h => h
  | .int _, v, h => h
  | .str _, v, h => h
  | .tup ds, v, h => by
    obtain ⟨a, vs, e, s, r⟩ := h
    exact ⟨a, vs, e, t.1 _ _ s, Reps.ext t k ds vs r⟩
  | .lst ds, v, h => by
    obtain ⟨a, vs, e, n, s, r⟩ := h
    exact ⟨a, vs, e, n, k _ _ n s, Reps.ext t k ds vs r⟩
  | .dct ks ds, v, h => by
    obtain ⟨a, kvs, e, n, s, q, r⟩ := h
    exact ⟨a, kvs, e, n, rd_av k n s, q, Reps.ext t k ds _ r⟩
  | .obj c ns ds, v, h => by
    obtain ⟨a, dx, fs, e, n, s, q, r⟩ := h
    exact ⟨a, dx, fs, e, n, k _ _ n s, q, Reps.ext t k ds _ r⟩
  | .scr ns, v, h => by
    obtain ⟨a, e, s⟩ := h
    exact ⟨a, e, t.2 _ _ s⟩
  | .ty _, v, h => h
  | .cls _, v, h => h
theorem Reps.ext (t : Tk G H H') (k : Av av H H') : ∀ (ds : List D) (vs : List V), Reps G av H ds vs → Reps G av H' ds vs
  | [], vs, h => h
  | d :: ds, vs, h => by
    obtain ⟨v, r, e, h1, h2⟩ := h
    exact ⟨v, r, e, Rep.ext t k d v h1, Reps.ext t k ds r h2⟩
end

mutual
theorem Rep.weak (k : ∀ a, (∃ o, H a = some o) → av' a → av a) : ∀ (d : D) (v : V), Rep G av H d v → Rep G av' H d v
  | .non, v, h => h
  | .bl _, v, h => h
  | .int _, v, h => h
  | .str _, v, h => h
  | .tup ds, v, h => by
    obtain ⟨a, vs, e, s, r⟩ := h
    exact ⟨a, vs, e, s, Reps.weak k ds vs r⟩
  | .lst ds, v, h => by
    obtain ⟨a, vs, e, n, s, r⟩ := h
    exact ⟨a, vs, e, fun z => n (k a ⟨_, s⟩ z), s, Reps.weak k ds vs r⟩
  | .dct ks ds, v, h => by
    obtain ⟨a, kvs, e, n, s, q, r⟩ := h
    exact ⟨a, kvs, e, fun z => n (k a (rd_some s) z), s, q, Reps.weak k ds _ r⟩
  | .obj c ns ds, v, h => by
    obtain ⟨a, dx, fs, e, n, s, q, r⟩ := h
    exact ⟨a, dx, fs, e, fun z => n (k a ⟨_, s⟩ z), s, q, Reps.weak k ds _ r⟩
  | .scr ns, v, h => h
  | .ty _, v, h => h
  | .cls _, v, h => h
theorem Reps.weak (k : ∀ a, (∃ o, H a = some o) → av' a → av a) : ∀ (ds : List D) (vs : List V), Reps G av H ds vs → Reps G av' H ds vs
  | [], vs, h => h
  | d :: ds, vs, h => by
    obtain ⟨v, r, e, h1, h2⟩ := h
    exact ⟨v, r, e, Rep.weak k d v h1, Reps.weak k ds r h2⟩
end

mutual
theorem Rep.own : ∀ (d : D) (v : V), d.imm = true → Rep G av H d v → OT G H d v []
  | .non, v, _, h => ⟨h, rfl⟩
  | .bl _, v, _, h => ⟨h, rfl⟩
  | .int _, v, _, h => ⟨h, rfl⟩
  | .str _, v, _, h => ⟨h, rfl⟩
  | .tup ds, v, i, h => by
    obtain ⟨a, vs, e, s, r⟩ := h
    exact ⟨a, vs, e, s, Reps.own ds vs i r⟩
  | .lst _, _, i, _ => by cases i
  | .dct _ _, _, i, _ => by cases i
  | .obj _ _ _, _, i, _ => by cases i
  | .scr _, _, _, h => ⟨h, rfl⟩
  | .ty _, _, _, h => ⟨h, rfl⟩
  | .cls _, _, _, h => ⟨h, rfl⟩
theorem Reps.own : ∀ (ds : List D) (vs : List V), D.imms ds = true → Reps G av H ds vs → OTs G H ds vs []
  | [], vs, _, h => ⟨h, rfl⟩
  | d :: ds, vs, i, h => by
    obtain ⟨v, r, e, h1, h2⟩ := h
    have i' : (d.imm && D.imms ds) = true := i
    rw [Bool.and_eq_true] at i'
    exact ⟨v, r, [], [], e, rfl, Rep.own d v i'.1 h1, Reps.own ds r i'.2 h2⟩
end

mutual
theorem OT.rep : ∀ (d : D) (v : V) (fp : List Addr), (∀ a ∈ fp, ¬ av a) → OT G H d v fp → Rep G av H d v
  | .non, v, _, _, h => h.1
  | .bl _, v, _, _, h => h.1
  | .int _, v, _, _, h => h.1
  | .str _, v, _, _, h => h.1
  | .tup ds, v, fp, n, h => by
    obtain ⟨a, vs, e, s, r⟩ := h
    exact ⟨a, vs, e, s, OTs.rep ds vs fp n r⟩
  | .lst ds, v, fp, n, h => by
    obtain ⟨a, vs, f, e, ef, s, r⟩ := h
    subst ef
    exact ⟨a, vs, e, n a (List.mem_cons_self), s, OTs.rep ds vs f (fun b hb => n b (List.mem_cons_of_mem _ hb)) r⟩
  | .dct ks ds, v, fp, n, h => by
    obtain ⟨a, kvs, f, e, ef, s, q, r⟩ := h
    subst ef
    exact ⟨a, kvs, e, n a (List.mem_cons_self), .inl s, q, OTs.rep ds _ f (fun b hb => n b (List.mem_cons_of_mem _ hb)) r⟩
  | .obj c ns ds, v, fp, n, h => by
    obtain ⟨a, dx, fs, f, e, ef, s, q, r⟩ := h
    subst ef
    exact ⟨a, dx, fs, e, n a (List.mem_cons_self), s, q, OTs.rep ds _ f (fun b hb => n b (List.mem_cons_of_mem _ hb)) r⟩
  | .scr ns, v, _, _, h => h.1
  | .ty _, v, _, _, h => h.1
  | .cls _, v, _, _, h => h.1
theorem OTs.rep : ∀ (ds : List D) (vs : List V) (fp : List Addr), (∀ a ∈ fp, ¬ av a) → OTs G H ds vs fp → Reps G av H ds vs
  | [], vs, _, _, h => h.1
  | d :: ds, vs, fp, n, h => by
    obtain ⟨v, r, f, g, e, ef, h1, h2⟩ := h
    subst ef
    exact ⟨v, r, e, OT.rep d v f (fun a ha => n a (List.mem_append_left _ ha)) h1, OTs.rep ds r g (fun a ha => n a (List.mem_append_right _ ha)) h2⟩
end

mutual
theorem OT.ext (t : Tk G H H') : ∀ (d : D) (v : V) (fp : List Addr), (∀ a ∈ fp, H' a = H a) → OT G H d v fp → OT G H' d v fp
  | .non, v, _, _, h => h
  | .bl _, v, _, _, h => h
  | .int _, v, _, _, h => h
  | .str _, v, _, _, h => h
  | .tup ds, v, fp, n, h => by
    obtain ⟨a, vs, e, s, r⟩ := h
    exact ⟨a, vs, e, t.1 _ _ s, OTs.ext t ds vs fp n r⟩
  | .lst ds, v, fp, n, h => by
    obtain ⟨a, vs, f, e, ef, s, r⟩ := h
    subst ef
    exact ⟨a, vs, f, e, rfl, (n a List.mem_cons_self).trans s, OTs.ext t ds vs f (fun b hb => n b (List.mem_cons_of_mem _ hb)) r⟩
  | .dct ks ds, v, fp, n, h => by
    obtain ⟨a, kvs, f, e, ef, s, q, r⟩ := h
    subst ef
    exact ⟨a, kvs, f, e, rfl, (n a List.mem_cons_self).trans s, q, OTs.ext t ds _ f (fun b hb => n b (List.mem_cons_of_mem _ hb)) r⟩
  | .obj c ns ds, v, fp, n, h => by
    obtain ⟨a, dx, fs, f, e, ef, s, q, r⟩ := h
    subst ef
    exact ⟨a, dx, fs, f, e, rfl, (n a List.mem_cons_self).trans s, q, OTs.ext t ds _ f (fun b hb => n b (List.mem_cons_of_mem _ hb)) r⟩
  | .scr ns, v, _, _, h => by
    obtain ⟨⟨a, e, s⟩, ef⟩ := h
    exact ⟨⟨a, e, t.2 _ _ s⟩, ef⟩
  | .ty _, v, _, _, h => h
  | .cls _, v, _, _, h => h
theorem OTs.ext (t : Tk G H H') : ∀ (ds : List D) (vs : List V) (fp : List Addr), (∀ a ∈ fp, H' a = H a) → OTs G H ds vs fp → OTs G H' ds vs fp
  | [], vs, _, _, h => h
  | d :: ds, vs, fp, n, h => by
    obtain ⟨v, r, f, g, e, ef, h1, h2⟩ := h
    subst ef
    exact ⟨v, r, f, g, e, rfl, OT.ext t d v f (fun a ha => n a (List.mem_append_left _ ha)) h1, OTs.ext t ds r g (fun a ha => n a (List.mem_append_right _ ha)) h2⟩
end

mutual
theorem OT.there : ∀ (d : D) (v : V) (fp : List Addr), OT G H d v fp → ∀ a ∈ fp, ∃ o, H a = some o ∧ Mut (some o)
  | .non, v, _, h, a, ha => by rw [h.2] at ha; cases ha
  | .bl _, v, _, h, a, ha => by rw [h.2] at ha; cases ha
  | .int _, v, _, h, a, ha => by rw [h.2] at ha; cases ha
  | .str _, v, _, h, a, ha => by rw [h.2] at ha; cases ha
  | .tup ds, v, fp, h, a, ha => by
    obtain ⟨b, vs, e, s, r⟩ := h
    exact OTs.there ds vs fp r a ha
  | .lst ds, v, fp, h, a, ha => by
    obtain ⟨b, vs, f, e, ef, s, r⟩ := h
    subst ef
    rcases List.mem_cons.mp ha with rfl | ha
    · exact ⟨_, s, trivial⟩
    · exact OTs.there ds vs f r a ha
  | .dct ks ds, v, fp, h, a, ha => by
    obtain ⟨b, kvs, f, e, ef, s, q, r⟩ := h
    subst ef
    rcases List.mem_cons.mp ha with rfl | ha
    · exact ⟨_, s, trivial⟩
    · exact OTs.there ds _ f r a ha
  | .obj c ns ds, v, fp, h, a, ha => by
    obtain ⟨b, dx, fs, f, e, ef, s, q, r⟩ := h
    subst ef
    rcases List.mem_cons.mp ha with rfl | ha
    · exact ⟨_, s, trivial⟩
    · exact OTs.there ds _ f r a ha
  | .scr ns, v, _, h, a, ha => by rw [h.2] at ha; cases ha
  | .ty _, v, _, h, a, ha => by rw [h.2] at ha; cases ha
  | .cls _, v, _, h, a, ha => by rw [h.2] at ha; cases ha
theorem OTs.there : ∀ (ds : List D) (vs : List V) (fp : List Addr), OTs G H ds vs fp → ∀ a ∈ fp, ∃ o, H a = some o ∧ Mut (some o)
  | [], vs, _, h, a, ha => by rw [h.2] at ha; cases ha
  | d :: ds, vs, fp, h, a, ha => by
    obtain ⟨v, r, f, g, e, ef, h1, h2⟩ := h
    subst ef
    rcases List.mem_append.mp ha with ha | ha
    · exact OT.there d v f h1 a ha
    · exact OTs.there ds r g h2 a ha
end
end
end Dn
set_option Elab.async false
set_option linter.all false
set_option maxRecDepth 100000
set_option maxHeartbeats 2000000
/-! Dn2: states of slots, results, readings of expressions, tests, statements by denotations. -/
namespace Dn
open PySem L2

/-- a slot: nothing known; data that is read only; data of its own; an argument that is changed in place -/
inductive Sl where
  | nil
  | shr (d : D)
  | own (d : D)
  | io (d : D)
abbrev Rho := List Sl

inductive R (α : Type) where
  | ok (a : α)
  | ex (e : Nat)
  | bad
def R.bind {α β : Type} (r : R α) (f : α → R β) : R β := match r with
  | .ok a => f a
  | .ex e => .ex e
  | .bad => .bad
def R.opt {α : Type} : Option α → R α
  | some a => .ok a
  | none => .bad
/-- how a value may be kept: new and nobody else's; read only; for now -/
inductive Md where
  | fr | sh | tr
def Md.jn : Md → Md → Md
  | .fr, m => m
  | .sh, .tr => .tr
  | .sh, _ => .sh
  | .tr, _ => .tr
def md (d : D) (m : Md) : Md := if d.imm then .fr else m
abbrev E := Rho → R (D × Md)
abbrev EA := Rho → R (List D × Md)
abbrev T := Rho → R Bool

abbrev Own (fp : Nat → List Addr) : Addr → Prop := fun a => ∃ i, a ∈ fp i
def SlOk (G : Cts) (av : Addr → Prop) (H : Hp) (f : List Addr) (w : Option (Option V)) (fv : Option V) : Sl → Prop
  | .nil => True
  | .shr d => ∃ v, w = some (some v) ∧ Rep G av H d v
  | .own d => ∃ v, w = some (some v) ∧ OT G H d v f
  | .io d => ∃ v, w = some (some v) ∧ fv = some v ∧ OT G H d v f
/-- the slots' values tell their data -/
structure LSR (G : Cts) (fp : Nat → List Addr) (fv : Nat → Option V) (σ : L2.St) (H : Hp) (ρ : Rho) : Prop where
  len : σ.length = ρ.length
  nd : ∀ i, (fp i).Nodup
  dj : ∀ i j, i ≠ j → ∀ a ∈ fp i, a ∉ fp j
  al : ∀ i, ∀ a ∈ fp i, ∃ o, H a = some o
  sl : ∀ (i : Nat) (s : Sl), ρ[i]? = some s → SlOk G (Own fp) H (fp i) (σ[i]?) (fv i) s

section
variable {G : Cts} {fp : Nat → List Addr} {fv : Nat → Option V} {σ : L2.St} {H H' H1 H2 : Hp} {ρ : Rho}
theorem tk_same (e : Same H H') : Tk G H H' := by
  refine ⟨fun a xs h => ?_, fun a xs h => ?_⟩
  · rcases h with (h | ⟨o, h⟩) | h
    · exact .inl (.inl (e _ _ h))
    · exact .inl (.inr ⟨o, e _ _ h⟩)
    · exact .inr h
  · rcases h with ⟨o, h⟩ | h
    · exact .inl ⟨o, e _ _ h⟩
    · exact .inr h
theorem Tk.refl : Tk G H H := ⟨fun _ _ h => h, fun _ _ h => h⟩
theorem same_new {p : Addr} {o : HO} (h : H p = none) : Same H (upd H p o) := fun a u e => by
  rw [upd_ne (ne_of_none e h)]
  exact e
theorem av_same {av : Addr → Prop} (e : Same H H') : Av av H H' := fun a o _ h => e a o h
theorem Tk.trans (a : Tk G H H1) (b : Tk G H1 H2) : Tk G H H2 := ⟨fun x xs h => b.1 x xs (a.1 x xs h), fun x xs h => b.2 x xs (a.2 x xs h)⟩
theorem Rep.same {av : Addr → Prop} {d : D} {v : V} (e : Same H H') (h : Rep G av H d v) : Rep G av H' d v := Rep.ext (tk_same e) (av_same e) d v h
theorem Reps.same {av : Addr → Prop} {d : List D} {v : List V} (e : Same H H') (h : Reps G av H d v) : Reps G av H' d v := Reps.ext (tk_same e) (av_same e) d v h
theorem OT.same {d : D} {v : V} {f : List Addr} (e : Same H H') (h : OT G H d v f) : OT G H' d v f :=
  OT.ext (tk_same e) d v f (fun a ha => by
    obtain ⟨o, q, _⟩ := OT.there d v f h a ha
    rw [q, e a o q]) h
theorem OTs.same {d : List D} {v : List V} {f : List Addr} (e : Same H H') (h : OTs G H d v f) : OTs G H' d v f :=
  OTs.ext (tk_same e) d v f (fun a ha => by
    obtain ⟨o, q, _⟩ := OTs.there d v f h a ha
    rw [q, e a o q]) h
theorem SlOk.same {av : Addr → Prop} {f : List Addr} {w : Option (Option V)} {x : Option V} (e : Same H H') : ∀ {s : Sl}, SlOk G av H f w x s → SlOk G av H' f w x s
  | .nil, _ => trivial
  | .shr d, ⟨v, h1, h2⟩ => ⟨v, h1, h2.same e⟩
  | .own d, ⟨v, h1, h2⟩ => ⟨v, h1, h2.same e⟩
  | .io d, ⟨v, h1, h2, h3⟩ => ⟨v, h1, h2, h3.same e⟩
theorem LSR.same (e : Same H H') (h : LSR G fp fv σ H ρ) : LSR G fp fv σ H' ρ :=
  ⟨h.len, h.nd, h.dj, fun i a ha => let ⟨o, q⟩ := h.al i a ha; ⟨o, e a o q⟩, fun i s q => (h.sl i s q).same e⟩

/-- new behind H -/
def Fresh (G : Cts) (H H' : Hp) (d : D) (v : V) : Prop := ∃ f, OT G H' d v f ∧ f.Nodup ∧ ∀ a ∈ f, H a = none
def Freshs (G : Cts) (H H' : Hp) (d : List D) (v : List V) : Prop := ∃ f, OTs G H' d v f ∧ f.Nodup ∧ ∀ a ∈ f, H a = none
def VOk (G : Cts) (fp : Nat → List Addr) (H H' : Hp) : Md → D → V → Prop
  | .fr, d, v => Fresh G H H' d v
  | .sh, d, v => Rep G (Own fp) H' d v
  | .tr, d, v => Rep G Nav H' d v
def VsOk (G : Cts) (fp : Nat → List Addr) (H H' : Hp) : Md → List D → List V → Prop
  | .fr, d, v => Freshs G H H' d v
  | .sh, d, v => Reps G (Own fp) H' d v
  | .tr, d, v => Reps G Nav H' d v
theorem Fresh.rep {d : D} {v : V} {av : Addr → Prop} (h : Fresh G H H' d v) (n : ∀ a, av a → ∃ o, H a = some o) : Rep G av H' d v := by
  obtain ⟨f, h1, h2, h3⟩ := h
  refine OT.rep d v f (fun a ha z => ?_) h1
  obtain ⟨o, q⟩ := n a z
  rw [h3 a ha] at q
  cases q
theorem Freshs.rep {d : List D} {v : List V} {av : Addr → Prop} (h : Freshs G H H' d v) (n : ∀ a, av a → ∃ o, H a = some o) : Reps G av H' d v := by
  obtain ⟨f, h1, h2, h3⟩ := h
  refine OTs.rep d v f (fun a ha z => ?_) h1
  obtain ⟨o, q⟩ := n a z
  rw [h3 a ha] at q
  cases q
theorem Fresh.same {d : D} {v : V} (e : Same H1 H2) (h : Fresh G H H1 d v) : Fresh G H H2 d v := let ⟨f, a, b, c⟩ := h; ⟨f, a.same e, b, c⟩
theorem Fresh.back {d : D} {v : V} (e : Same H H1) (h : Fresh G H1 H2 d v) : Fresh G H H2 d v := let ⟨f, a, b, c⟩ := h; ⟨f, a, b, fun x hx => e.free (c x hx)⟩
theorem Fresh.of_imm {av : Addr → Prop} {d : D} {v : V} (i : d.imm = true) (h : Rep G av H' d v) : Fresh G H H' d v := ⟨[], Rep.own d v i h, List.nodup_nil, fun _ z => by cases z⟩
theorem VOk.sh {m : Md} {d : D} {v : V} (I : LSR G fp fv σ H ρ) (hm : m ≠ .tr) (h : VOk G fp H H' m d v) : Rep G (Own fp) H' d v := by
  cases m with
  | fr => exact Fresh.rep h fun a ⟨i, z⟩ => I.al i a z
  | sh => exact h
  | tr => exact absurd rfl hm
theorem Rep.tr {av : Addr → Prop} {d : D} {v : V} (h : Rep G av H d v) : Rep G Nav H d v := Rep.weak (fun a _ z => z.elim) d v h
theorem Reps.tr {av : Addr → Prop} {d : List D} {v : List V} (h : Reps G av H d v) : Reps G Nav H d v := Reps.weak (fun a _ z => z.elim) d v h
theorem VOk.tr {m : Md} {d : D} {v : V} (h : VOk G fp H H' m d v) : Rep G Nav H' d v := by
  cases m with
  | fr => exact Fresh.rep h fun a z => z.elim
  | sh => exact Rep.tr (av := Own fp) h
  | tr => exact h
theorem VsOk.tr {m : Md} {d : List D} {v : List V} (h : VsOk G fp H H' m d v) : Reps G Nav H' d v := by
  cases m with
  | fr => exact Freshs.rep h fun a z => z.elim
  | sh => exact Reps.tr (av := Own fp) h
  | tr => exact h
theorem VOk.nrm {m : Md} {d : D} {v : V} (h : VOk G fp H H' m d v) : VOk G fp H H' (md d m) d v := by
  unfold md
  split
  · rename_i i
    exact Fresh.of_imm i h.tr
  · exact h
theorem VOk.same {m : Md} {d : D} {v : V} (e : Same H1 H2) (h : VOk G fp H H1 m d v) : VOk G fp H H2 m d v := by
  cases m with
  | fr => exact Fresh.same e h
  | sh => exact Rep.same e h
  | tr => exact Rep.same e h
theorem VOk.back {m : Md} {d : D} {v : V} (e : Same H H1) (h : VOk G fp H1 H2 m d v) : VOk G fp H H2 m d v := by
  cases m with
  | fr => exact Fresh.back e h
  | sh => exact h
  | tr => exact h
/-- one more value behind those that came first -/
theorem VsOk.cons {m n : Md} {d : D} {v : V} {ds : List D} {vs : List V} (I : LSR G fp fv σ H ρ) (e1 : Same H H1) (e : Same H1 H2) (h : VOk G fp H H1 m d v) (hs : VsOk G fp H1 H2 n ds vs) :
    VsOk G fp H H2 (Md.jn m n) (d :: ds) (v :: vs) := by
  have own1 : ∀ a, Own fp a → ∃ o, H1 a = some o := fun a ⟨i, z⟩ => let ⟨o, q⟩ := I.al i a z; ⟨o, e1 a o q⟩
  have own0 : ∀ a, Own fp a → ∃ o, H a = some o := fun a ⟨i, z⟩ => I.al i a z
  have trc : ∀ {m' n'}, VOk G fp H H1 m' d v → VsOk G fp H1 H2 n' ds vs → Reps G Nav H2 (d :: ds) (v :: vs) := fun h hs => ⟨v, vs, rfl, (h.same e).tr, hs.tr⟩
  cases m with
  | fr =>
    cases n with
    | fr =>
      obtain ⟨f, a1, a2, a3⟩ := h
      obtain ⟨g, b1, b2, b3⟩ := hs
      refine ⟨f ++ g, ⟨v, vs, f, g, rfl, rfl, a1.same e, b1⟩, ?_, fun a ha => ?_⟩
      · refine List.nodup_append.mpr ⟨a2, b2, fun x hx y hy z => ?_⟩
        subst z
        obtain ⟨o, q, _⟩ := OT.there d v f a1 x hx
        rw [b3 x hy] at q
        cases q
      · rcases List.mem_append.mp ha with ha | ha
        · exact a3 a ha
        · exact e1.free (b3 a ha)
    | sh => exact ⟨v, vs, rfl, (Fresh.same e h).rep own0, hs⟩
    | tr => exact trc (m' := .fr) (n' := .tr) h hs
  | sh =>
    cases n with
    | fr => exact ⟨v, vs, rfl, Rep.same e h, Freshs.rep hs own1⟩
    | sh => exact ⟨v, vs, rfl, Rep.same e h, hs⟩
    | tr => exact trc (m' := .sh) (n' := .tr) h hs
  | tr => exact trc (m' := .tr) (n' := n) h hs
end

/-! ### readings by denotations -/
def tE (G : Cts) (W : WX) (f : E) : TE := fun σ H Q => ∃ fp fv ρ, LSR G fp fv σ H ρ ∧ match f ρ with
  | .ok (d, m) => ∀ v H', Same H H' → VOk G fp H H' m d v → Q v H'
  | .ex e => ∀ H', Same H H' → W (.ref (G.cls e)) none σ H'
  | .bad => False
def tA (G : Cts) (W : WX) (f : EA) : TA := fun σ H Q => ∃ fp fv ρ, LSR G fp fv σ H ρ ∧ match f ρ with
  | .ok (d, m) => ∀ v H', Same H H' → VsOk G fp H H' m d v → Q v H'
  | .ex e => ∀ H', Same H H' → W (.ref (G.cls e)) none σ H'
  | .bad => False
def tT (G : Cts) (W : WX) (f : T) : TT := fun σ H Q => ∃ fp fv ρ, LSR G fp fv σ H ρ ∧ match f ρ with
  | .ok b => ∀ H', Same H H' → Q b H'
  | .ex e => ∀ H', Same H H' → W (.ref (G.cls e)) none σ H'
  | .bad => False

section
variable {X : Cx} {G : Cts} {W : WX}
theorem PE.of {e : Expr} {t t' : TE} (h : PE X e t) (k : ∀ σ H Q, t' σ H Q → t σ H Q) : PE X e t' := ⟨fun pins s σ H Q I hw => h.run pins s σ H Q I (k σ H Q hw)⟩
theorem PA.of {e : List Expr} {t t' : TA} (h : PA X e t) (k : ∀ σ H Q, t' σ H Q → t σ H Q) : PA X e t' := ⟨fun p pins s σ H Q I hw => h.run p pins s σ H Q I (k σ H Q hw)⟩
theorem PT.of {e : Expr} {t t' : TT} (h : PT X e t) (k : ∀ σ H Q, t' σ H Q → t σ H Q) : PT X e t' := ⟨fun pins s σ H Q I hw => h.run pins s σ H Q I (k σ H Q hw)⟩
theorem PW.of {e : Expr} {t t' : TT} (h : PW X e t) (k : ∀ σ H Q, t' σ H Q → t σ H Q) : PW X e t' := ⟨fun wh pins s σ H Q I hw => h.run wh pins s σ H Q I (k σ H Q hw)⟩
theorem PS.of {e : Stmt} {t t' : TS} (h : PS X e t) (k : ∀ D σ H, t' D σ H → t D σ H) : PS X e t' := ⟨fun pins s σ H D I hw => h.run pins s σ H D I (k D σ H hw)⟩
theorem PSs.of {e : List Stmt} {t t' : TS} (h : PSs X e t) (k : ∀ D σ H, t' D σ H → t D σ H) : PSs X e t' := ⟨fun pins s σ H D I hw => h.run pins s σ H D I (k D σ H hw)⟩

/-- how two readings follow one another -/
theorem tE.go {f : E} {σ : L2.St} {H : Hp} {Q : VK} {fp : Nat → List Addr} {fv : Nat → Option V} {ρ : Rho} (I : LSR G fp fv σ H ρ)
    (hx : ∀ e, f ρ = .ex e → ∀ H', Same H H' → W (.ref (G.cls e)) none σ H') (hb : f ρ ≠ .bad)
    (hk : ∀ d m, f ρ = .ok (d, m) → ∀ v H', Same H H' → VOk G fp H H' m d v → Q v H') : tE G W f σ H Q := by
  refine ⟨fp, fv, ρ, I, ?_⟩
  cases q : f ρ with
  | ok r => exact hk r.1 r.2 q
  | ex e => exact hx e q
  | bad => exact absurd q hb

def eVar (i : Nat) : E := fun ρ => match ρ[i]? with
  | some (.shr d) => .ok (d, .sh)
  | some (.own d) => .ok (d, .tr)
  | some (.io d) => .ok (d, .tr)
  | _ => .bad
theorem px_var {e : Expr} {i : Nat} (h : PE X e (tVar i)) : PE X e (tE G W (eVar i)) := by
  refine PE.of h fun σ H Q ⟨fp, fv, ρ, I, q⟩ => ?_
  unfold eVar at q
  cases e : ρ[i]? with
  | none =>
    rw [e] at q
    exact q.elim
  | some s =>
    rw [e] at q
    have r := I.sl i s e
    cases s with
    | nil => exact q.elim
    | shr d =>
      obtain ⟨v, e1, r⟩ := r
      exact ⟨v, e1, q v H (Same.refl H) r⟩
    | own d =>
      obtain ⟨v, e1, r⟩ := r
      exact ⟨v, e1, q v H (Same.refl H) (OT.rep d v _ (fun _ _ z => z) r)⟩
    | io d =>
      obtain ⟨v, e1, _, r⟩ := r
      exact ⟨v, e1, q v H (Same.refl H) (OT.rep d v _ (fun _ _ z => z) r)⟩
def eC (d : D) : E := fun _ => .ok (d, .fr)
/-- constants -/
theorem px_c {e : Expr} {v : V} {d : D} (h : PE X e (tC v)) (hd : d.imm = true) (hr : ∀ H, Rep G Nav H d v) : PE X e (tE G W (eC d)) :=
  PE.of h fun σ H Q ⟨fp, fv, ρ, I, q⟩ => q v H (Same.refl H) (Fresh.of_imm hd (hr H))
theorem px_int {i j pos} : PE X (.Constant (.int i) j pos) (tE G W (eC (.int i))) := px_c pe_int rfl fun _ => rfl
theorem px_bl {i j pos} : PE X (.Constant (.bool i) j pos) (tE G W (eC (.bl i))) := px_c pe_bl rfl fun _ => rfl
theorem px_non {j pos} : PE X (.Constant .none j pos) (tE G W (eC .non)) := px_c pe_non rfl fun _ => rfl
theorem px_str {i j pos} : PE X (.Constant (.str i) j pos) (tE G W (eC (.str i))) := px_c pe_str rfl fun _ => rfl

/-- two places, a rule by values -/
def Op2 (G : Cts) (r : R2) (f : D → D → Option D) : Prop :=
  ∀ x y d e H, Rep G Nav H d x → Rep G Nav H e y → ∀ c, f d e = some c → ∀ Q : VK, (∀ v H', Same H H' → Fresh G H H' c v → Q v H') → r x y H Q
def eBin (op : D → D → Option D) (f g : E) : E := fun ρ => (f ρ).bind fun a => (g ρ).bind fun b => (R.opt (op a.1 b.1)).bind fun c => .ok (c, .fr)
theorem tE.bin {op : D → D → Option D} {r : R2} (ho : Op2 G r op) {f g : E} {σ : L2.St} {H : Hp} {Q : VK} (h : tE G W (eBin op f g) σ H Q) : tOp r (tE G W f) (tE G W g) σ H Q := by
  obtain ⟨fp, fv, ρ, I, q⟩ := h
  unfold eBin at q
  refine tE.go I (fun e h => ?_) (fun h => ?_) fun d m h v H1 e1 v1 => ?_
  · rw [h] at q
    exact q
  · rw [h] at q
    exact q
  · rw [h] at q
    have I1 := I.same e1
    refine tE.go I1 (fun e h2 H' e' => ?_) (fun h2 => ?_) fun d2 m2 h2 v2 H2 e2 w2 => ?_
    · simp only [R.bind, h2] at q
      exact q H' (e1.trans e')
    · simp only [R.bind, h2] at q
    · simp only [R.bind, h2] at q
      cases h3 : op d d2 with
      | none =>
        simp only [h3, R.opt] at q
      | some c =>
        simp only [h3, R.opt] at q
        exact ho v v2 d d2 H2 ((v1.same e2).tr) w2.tr c h3 Q fun v' H' e' fr' => q v' H' ((e1.trans e2).trans e') (fr'.back (e1.trans e2))
theorem px_bin {a b : Expr} {pos : Pos} {o : Operator} {op : D → D → Option D} {r : R2} {f g : E} (hr : OpR X (binaryOp o) r) (ho : Op2 G r op) (ha : PE X a (tE G W f)) (hb : PE X b (tE G W g)) :
    PE X (.BinOp a o b pos) (tE G W (eBin op f g)) := PE.of (pe_op hr ha hb) fun _ _ _ h => tE.bin ho h
theorem px_cmp {a b : Expr} {pos : Pos} {o : CmpOp} {op : D → D → Option D} {r : R2} {f g : E} (hr : OpR X (compareOp o) r) (ho : Op2 G r op) (ha : PE X a (tE G W f)) (hb : PE X b (tE G W g)) (hm : behindInMarks o b = false) :
    PE X (.Compare a [o] [b] pos) (tE G W (eBin op f g)) := PE.of (pe_cmpR hr ha hb hm) fun _ _ _ h => tE.bin ho h
theorem Op2.or {r r' : R2} {f : D → D → Option D} {g : D → D → Option D} (h : Op2 G r f) (h' : Op2 G r' g) : Op2 G (fun x y H Q => r x y H Q ∨ r' x y H Q) (fun a b => match f a b with | some c => some c | none => g a b) := by
  intro x y d e H hx hy c hc Q k
  cases q : f d e with
  | some c' =>
    simp only [q] at hc
    cases hc
    exact .inl (h x y d e H hx hy _ q Q k)
  | none =>
    simp only [q] at hc
    exact .inr (h' x y d e H hx hy c hc Q k)
end
end Dn
set_option Elab.async false
set_option linter.all false
set_option maxRecDepth 100000
set_option maxHeartbeats 2000000
/-! Dn3: arguments, displays, tests. -/
namespace Dn
open PySem L2
theorem line_big {n : Nat} (h : n ≤ 1000000) : n ≤ sizeLine := Nat.le_trans h (by decide)
theorem line_lt {n : Nat} (h : n < 1000000) : n < sizeLine := Nat.lt_of_lt_of_le h (by decide)
section
variable {G : Cts} {av : Addr → Prop} {H : Hp}
theorem Reps.length : ∀ {ds : List D} {vs : List V}, Reps G av H ds vs → ds.length = vs.length
  | [], _, h => by
    obtain rfl : _ = [] := h
    rfl
  | d :: ds, _, ⟨v, r, e, _, h⟩ => by
    subst e
    rw [List.length_cons, List.length_cons, Reps.length h]
theorem OTs.length {f : List Addr} : ∀ {ds : List D} {vs : List V} {f : List Addr}, OTs G H ds vs f → ds.length = vs.length
  | [], _, _, h => by
    obtain rfl : _ = [] := h.1
    rfl
  | d :: ds, _, _, ⟨v, r, f, g, e, _, _, h⟩ => by
    subst e
    rw [List.length_cons, List.length_cons, OTs.length (f := g) h]
theorem VsOk.length {fp : Nat → List Addr} {H' : Hp} {m : Md} {ds : List D} {vs : List V} (h : VsOk G fp H H' m ds vs) : ds.length = vs.length := Reps.length h.tr
end
section
variable {X : Cx} {G : Cts} {W : WX}
theorem tE.of_bind {α : Type} {f : E} {k : D × Md → R α} {y : R α → Prop} {σ : L2.St} {H : Hp} {Q : VK} {fp : Nat → List Addr} {fv : Nat → Option V} {ρ : Rho} (I : LSR G fp fv σ H ρ) (q : y ((f ρ).bind k))
    (hx : ∀ e, y (.ex e) → ∀ H', Same H H' → W (.ref (G.cls e)) none σ H') (hb : ¬ y .bad)
    (hk : ∀ d m, y (k (d, m)) → ∀ v H', Same H H' → VOk G fp H H' m d v → Q v H') : tE G W f σ H Q := by
  refine tE.go I (fun e h => ?_) (fun h => ?_) fun d m h => ?_
  · rw [h] at q
    exact hx e q
  · rw [h] at q
    exact hb q
  · rw [h] at q
    exact hk d m q
theorem tA.of_bind {α : Type} {f : EA} {k : List D × Md → R α} {y : R α → Prop} {σ : L2.St} {H : Hp} {Q : List V → Hp → Prop} {fp : Nat → List Addr} {fv : Nat → Option V} {ρ : Rho} (I : LSR G fp fv σ H ρ) (q : y ((f ρ).bind k))
    (hx : ∀ e, y (.ex e) → ∀ H', Same H H' → W (.ref (G.cls e)) none σ H') (hb : ¬ y .bad)
    (hk : ∀ d m, y (k (d, m)) → ∀ v H', Same H H' → VsOk G fp H H' m d v → Q v H') : tA G W f σ H Q := by
  refine ⟨fp, fv, ρ, I, ?_⟩
  cases h : f ρ with
  | ok r =>
    rw [h] at q
    exact hk r.1 r.2 q
  | ex e =>
    rw [h] at q
    exact hx e q
  | bad =>
    rw [h] at q
    exact hb q
theorem tT.of_bind {α : Type} {f : T} {k : Bool → R α} {y : R α → Prop} {σ : L2.St} {H : Hp} {Q : Bool → Hp → Prop} {fp : Nat → List Addr} {fv : Nat → Option V} {ρ : Rho} (I : LSR G fp fv σ H ρ) (q : y ((f ρ).bind k))
    (hx : ∀ e, y (.ex e) → ∀ H', Same H H' → W (.ref (G.cls e)) none σ H') (hb : ¬ y .bad)
    (hk : ∀ b, y (k b) → ∀ H', Same H H' → Q b H') : tT G W f σ H Q := by
  refine ⟨fp, fv, ρ, I, ?_⟩
  cases h : f ρ with
  | ok r =>
    rw [h] at q
    exact hk r q
  | ex e =>
    rw [h] at q
    exact hx e q
  | bad =>
    rw [h] at q
    exact hb q
/-- what an end asks -/
abbrev yE (G : Cts) (W : WX) (fp : Nat → List Addr) (σ : L2.St) (H : Hp) (Q : VK) : R (D × Md) → Prop
  | .ok (d, m) => ∀ v H', Same H H' → VOk G fp H H' m d v → Q v H'
  | .ex e => ∀ H', Same H H' → W (.ref (G.cls e)) none σ H'
  | .bad => False
abbrev yA (G : Cts) (W : WX) (fp : Nat → List Addr) (σ : L2.St) (H : Hp) (Q : List V → Hp → Prop) : R (List D × Md) → Prop
  | .ok (d, m) => ∀ v H', Same H H' → VsOk G fp H H' m d v → Q v H'
  | .ex e => ∀ H', Same H H' → W (.ref (G.cls e)) none σ H'
  | .bad => False
abbrev yT (G : Cts) (W : WX) (σ : L2.St) (H : Hp) (Q : Bool → Hp → Prop) : R Bool → Prop
  | .ok b => ∀ H', Same H H' → Q b H'
  | .ex e => ∀ H', Same H H' → W (.ref (G.cls e)) none σ H'
  | .bad => False

/-! ### arguments -/
def eNil : EA := fun _ => .ok ([], .fr)
def eCons (f : E) (g : EA) : EA := fun ρ => (f ρ).bind fun a => (g ρ).bind fun b => .ok (a.1 :: b.1, Md.jn (md a.1 a.2) b.2)
theorem px_nil : PA X [] (tA G W eNil) := PA.of pa_nil fun σ H Q ⟨fp, fv, ρ, I, q⟩ => q [] H (Same.refl H) ⟨[], ⟨rfl, rfl⟩, List.nodup_nil, fun _ z => by cases z⟩
theorem px_cons {e : Expr} {es : List Expr} {f : E} {g : EA} (h : PE X e (tE G W f)) (hs : PA X es (tA G W g)) (hst : starEach (e :: es) X.env = (false, eval e X.env) :: starEach es X.env := by rfl) : PA X (e :: es) (tA G W (eCons f g)) := by
  refine PA.of (pa_cons h hs hst) fun σ H Q ⟨fp, fv, ρ, I, q⟩ => ?_
  refine tE.of_bind (y := yA G W fp σ H Q) I q (fun e h => h) (fun h => h) fun d m q v H1 e1 v1 => ?_
  have I1 := I.same e1
  refine tA.of_bind (y := yA G W fp σ H Q) I1 q (fun e h H' e' => h H' (e1.trans e')) (fun h => h) fun ds n q vs H2 e2 v2 => ?_
  exact q (v :: vs) H2 (e1.trans e2) (VsOk.cons I e1 e2 v1.nrm v2)

/-! ### displays -/
def eTup (g : EA) : E := fun ρ => (g ρ).bind fun a => if a.1.length ≤ 1000000 then .ok (.tup a.1, a.2) else .bad
def eLst (g : EA) : E := fun ρ => (g ρ).bind fun a => if a.1.length ≤ 1000000 then .ok (.lst a.1, a.2) else .bad
/-- a new tuple -/
theorem VsOk.tup {fp : Nat → List Addr} {H H1 : Hp} {m : Md} {ds : List D} {vs : List V} {p : Addr} (h : VsOk G fp H H1 m ds vs) (hp : H1 p = none) : VOk G fp H (upd H1 p (.tup vs)) m (.tup ds) (.ref p) := by
  have e : Same H1 (upd H1 p (.tup vs)) := same_new hp
  cases m with
  | fr =>
    obtain ⟨f, a, b, c⟩ := h
    exact ⟨f, ⟨p, vs, rfl, SqT.of upd_same, a.same e⟩, b, c⟩
  | sh => exact ⟨p, vs, rfl, SqT.of upd_same, Reps.same e h⟩
  | tr => exact ⟨p, vs, rfl, SqT.of upd_same, Reps.same e h⟩
theorem Freshs.lst {H H1 : Hp} {ds : List D} {vs : List V} {p : Addr} (e1 : Same H H1) (h : Freshs G H H1 ds vs) (hp : H1 p = none) : Fresh G H (upd H1 p (.lst vs)) (.lst ds) (.ref p) := by
  have e : Same H1 (upd H1 p (.lst vs)) := same_new hp
  obtain ⟨f, a, b, c⟩ := h
  refine ⟨p :: f, ⟨p, vs, f, rfl, rfl, upd_same, a.same e⟩, List.nodup_cons.mpr ⟨fun hm => ?_, b⟩, fun x hx => ?_⟩
  · obtain ⟨o, q, _⟩ := OTs.there ds vs f a p hm
    rw [hp] at q
    cases q
  · rcases List.mem_cons.mp hx with rfl | hx
    · exact e1.free hp
    · exact c x hx
theorem VsOk.lst {fp : Nat → List Addr} {fv : Nat → Option V} {σ : L2.St} {ρ : Rho} {H H1 : Hp} {m : Md} {ds : List D} {vs : List V} {p : Addr} (I : LSR G fp fv σ H ρ) (e1 : Same H H1) (h : VsOk G fp H H1 m ds vs) (hp : H1 p = none) : VOk G fp H (upd H1 p (.lst vs)) m (.lst ds) (.ref p) := by
  have e : Same H1 (upd H1 p (.lst vs)) := same_new hp
  cases m with
  | fr => exact Freshs.lst e1 h hp
  | sh =>
    refine ⟨p, vs, rfl, fun ⟨i, z⟩ => ?_, upd_same, Reps.same e h⟩
    obtain ⟨o, q⟩ := I.al i p z
    rw [e1.free hp] at q
    cases q
  | tr => exact ⟨p, vs, rfl, fun z => z, upd_same, Reps.same e h⟩
theorem px_tup {es : List Expr} {k : Nat} {pos : Pos} {g : EA} (h : PA X es (tA G W g)) : PE X (.Tuple es k pos) (tE G W (eTup g)) := by
  refine PE.of (pe_tup h) fun σ H Q ⟨fp, fv, ρ, I, q⟩ => ?_
  refine tA.of_bind (y := yE G W fp σ H Q) I q (fun e h => h) (fun h => h) fun ds m q vs H1 e1 v1 => ?_
  by_cases hl : ds.length ≤ 1000000
  · rw [if_pos hl] at q
    rw [v1.length] at hl
    exact ⟨line_big hl, fun p hp => q _ _ (e1.trans (same_new hp)) (v1.tup hp)⟩
  · rw [if_neg hl] at q
    exact q.elim
theorem px_lst {es : List Expr} {pos : Pos} {g : EA} (h : PA X es (tA G W g)) : PE X (.List es pos) (tE G W (eLst g)) := by
  refine PE.of (pe_lst h) fun σ H Q ⟨fp, fv, ρ, I, q⟩ => ?_
  refine tA.of_bind (y := yE G W fp σ H Q) I q (fun e h => h) (fun h => h) fun ds m q vs H1 e1 v1 => ?_
  by_cases hl : ds.length ≤ 1000000
  · rw [if_pos hl] at q
    rw [v1.length] at hl
    exact ⟨line_big hl, fun p hp => q _ _ (e1.trans (same_new hp)) (v1.lst I e1 hp)⟩
  · rw [if_neg hl] at q
    exact q.elim

/-! ### tests -/
def tOf (f : E) : T := fun ρ => (f ρ).bind fun a => match a.1 with
  | .bl b => .ok b
  | _ => .bad
theorem tT.test {f : E} {t : TE} (k : ∀ σ H Q, tE G W f σ H Q → t σ H Q) {σ : L2.St} {H : Hp} {Q : Bool → Hp → Prop} (h : tT G W (tOf f) σ H Q) : t σ H fun x H' => ∃ b, x = .bl b ∧ Q b H' := by
  obtain ⟨fp, fv, ρ, I, q⟩ := h
  refine k _ _ _ (tE.of_bind (y := yT G W σ H Q) I q (fun e h => h) (fun h => h) fun d m q v H1 e1 v1 => ?_)
  cases d with
  | bl b => exact ⟨b, v1.tr, q H1 e1⟩
  | _ => exact q.elim
theorem pt_of_cmp {a b : Expr} {pos : Pos} {o : CmpOp} {op : D → D → Option D} {r : R2} {f g : E} (hr : OpR X (compareOp o) r) (ho : Op2 G r op) (ha : PE X a (tE G W f)) (hb : PE X b (tE G W g)) (hm : behindInMarks o b = false) :
    PT X (.Compare a [o] [b] pos) (tT G W (tOf (eBin op f g))) := PT.of (pt_cmpR hr ha hb hm) fun _ _ _ h => tT.test (fun _ _ _ => tE.bin ho) h
theorem pt_of {e : Expr} {f : E} (h : PE X e (tE G W f)) (he : ∀ whole, isTrue e X.env whole = (do let v ← whole; standAt e.pos; holding [v] (truthy v)) := by intro _; rfl) : PT X e (tT G W (tOf f)) :=
  PT.of (pt_val h he) fun _ _ _ h => tT.test (fun _ _ _ z => z) h
/-- truth of any value -/
def truD : D → Option Bool
  | .non => some false
  | .bl b => some b
  | .int i => some (i != 0)
  | .str s => if s.length ≤ 1000000 then some (s.length != 0) else none
  | .tup ds => some (!ds.isEmpty)
  | .lst ds => some (!ds.isEmpty)
  | .dct _ _ => none
  | .obj _ _ _ => none
  | .scr ns => some (!ns.isEmpty)
  | .ty _ => none
  | .cls _ => none
theorem Reps.empty {av : Addr → Prop} {H : Hp} : ∀ {ds : List D} {vs : List V}, Reps G av H ds vs → ds.isEmpty = vs.isEmpty
  | [], _, h => by
    obtain rfl : _ = [] := h
    rfl
  | d :: ds, _, ⟨v, r, e, _, _⟩ => by
    subst e
    rfl
theorem truV_of {d : D} {v : V} {H : Hp} {b : Bool} (h : Rep G Nav H d v) (e : truD d = some b) : TruV G.K v H b := by
  cases d with
  | non =>
    obtain rfl : v = .non := h
    exact (Option.some.inj e).symm
  | bl c =>
    obtain rfl : v = .bl c := h
    exact (Option.some.inj e).symm
  | int i =>
    obtain rfl : v = .int i := h
    exact (Option.some.inj e).symm
  | str s =>
    obtain rfl : v = .str s := h
    by_cases hl : s.length ≤ 1000000
    · simp only [truD, if_pos hl] at e
      refine ⟨line_big hl, ?_⟩
      rw [← Option.some.inj e]
      by_cases z : s.length = 0
      · rw [z]
        rfl
      · rw [(bne_iff_ne (a := s.length) (b := 0)).mpr z]
        exact ((bne_iff_ne (a := (s.length : Int)) (b := 0)).mpr (by omega)).symm
    · simp only [truD, if_neg hl] at e
      cases e
  | tup ds =>
    obtain ⟨a, vs, rfl, s, r⟩ := h
    refine .inr (.inl ⟨vs, s, ?_⟩)
    rw [← r.empty]
    exact (Option.some.inj e).symm
  | lst ds =>
    obtain ⟨a, vs, rfl, _, s, r⟩ := h
    refine .inl ⟨vs, SqL.of s, ?_⟩
    rw [← r.empty]
    exact (Option.some.inj e).symm
  | dct _ _ => cases e
  | obj _ _ _ => cases e
  | scr ns =>
    obtain ⟨a, rfl, s⟩ := h
    refine .inl ⟨_, s.seq, ?_⟩
    have e' : (!ns.isEmpty) = b := Option.some.inj e
    rw [← e']
    cases ns <;> rfl
  | ty _ => cases e
  | cls _ => cases e
def tTru (f : E) : T := fun ρ => (f ρ).bind fun a => R.opt (truD a.1)
theorem pt_tru {e : Expr} {f : E} (h : PE X e (tE G W f)) (hK : X.K = G.K := by rfl) (he : ∀ whole, isTrue e X.env whole = (do let v ← whole; standAt e.pos; holding [v] (truthy v)) := by intro _; rfl) : PT X e (tT G W (tTru f)) := by
  refine PT.of (pt_truth h he) fun σ H Q ⟨fp, fv, ρ, I, q⟩ => ?_
  refine tE.of_bind (y := yT G W σ H Q) I q (fun e h => h) (fun h => h) fun d m q v H1 e1 v1 => ?_
  cases z : truD d with
  | none =>
    simp only [z, R.opt] at q
    exact q.elim
  | some b =>
    simp only [z, R.opt] at q
    rw [hK]
    exact ⟨b, truV_of v1.tr z, q H1 e1⟩
def tAnd' (f g : T) : T := fun ρ => (f ρ).bind fun b => if b = true then g ρ else .ok false
def tOr' (f g : T) : T := fun ρ => (f ρ).bind fun b => if b = true then .ok true else g ρ
def tNot' (f : T) : T := fun ρ => (f ρ).bind fun b => .ok (!b)
theorem pw_of1 {a : Expr} {pos : Pos} {f : T} (h : PT X a (tT G W f)) : PW X (.BoolOp .And [a] pos) (tT G W f) := pw_and1 h
theorem pw_of1o {a : Expr} {pos : Pos} {f : T} (h : PT X a (tT G W f)) : PW X (.BoolOp .Or [a] pos) (tT G W f) := pw_or1 h
theorem pw_ofAnd {a b : Expr} {rest : List Expr} {pos : Pos} {f g : T} (h : PT X a (tT G W f)) (hs : PW X (.BoolOp .And (b :: rest) pos) (tT G W g)) : PW X (.BoolOp .And (a :: b :: rest) pos) (tT G W (tAnd' f g)) := by
  refine PW.of (pw_and h hs) fun σ H Q ⟨fp, fv, ρ, I, q⟩ => ?_
  refine tT.of_bind (y := yT G W σ H Q) I q (fun e h => h) (fun h => h) fun b q H1 e1 => ?_
  cases b with
  | true =>
    refine iteT ⟨fp, fv, ρ, I.same e1, ?_⟩
    rw [if_pos rfl] at q
    cases z : g ρ with
    | ok c =>
      rw [z] at q
      exact fun H' e' => q H' (e1.trans e')
    | ex e =>
      rw [z] at q
      exact fun H' e' => q H' (e1.trans e')
    | bad =>
      rw [z] at q
      exact q
  | false =>
    rw [if_neg Bool.false_ne_true] at q
    exact iteF (q H1 e1)
theorem pw_ofOr {a b : Expr} {rest : List Expr} {pos : Pos} {f g : T} (h : PT X a (tT G W f)) (hs : PW X (.BoolOp .Or (b :: rest) pos) (tT G W g)) : PW X (.BoolOp .Or (a :: b :: rest) pos) (tT G W (tOr' f g)) := by
  refine PW.of (pw_or h hs) fun σ H Q ⟨fp, fv, ρ, I, q⟩ => ?_
  refine tT.of_bind (y := yT G W σ H Q) I q (fun e h => h) (fun h => h) fun b q H1 e1 => ?_
  cases b with
  | true =>
    rw [if_pos rfl] at q
    exact iteT (q H1 e1)
  | false =>
    refine iteF ⟨fp, fv, ρ, I.same e1, ?_⟩
    rw [if_neg Bool.false_ne_true] at q
    cases z : g ρ with
    | ok c =>
      rw [z] at q
      exact fun H' e' => q H' (e1.trans e')
    | ex e =>
      rw [z] at q
      exact fun H' e' => q H' (e1.trans e')
    | bad =>
      rw [z] at q
      exact q
theorem pt_ofNot {a : Expr} {pos : Pos} {f : T} (h : PT X a (tT G W f)) : PT X (.UnaryOp .Not a pos) (tT G W (tNot' f)) := by
  refine PT.of (pt_not h) fun σ H Q ⟨fp, fv, ρ, I, q⟩ => ?_
  exact tT.of_bind (y := yT G W σ H Q) I q (fun e h => h) (fun h => h) fun b q H1 e1 => q H1 e1
/-- a if t else b -/
def eIf (t : T) (f g : E) : E := fun ρ => (t ρ).bind fun b => if b = true then f ρ else g ρ
theorem yE.back {fp : Nat → List Addr} {σ : L2.St} {H H1 : Hp} {Q : VK} {r : R (D × Md)} (e1 : Same H H1) (q : yE G W fp σ H Q r) : yE G W fp σ H1 Q r := by
  cases r with
  | ok r => exact fun v H' e' v' => q v H' (e1.trans e') (v'.back e1)
  | ex e => exact fun H' e' => q H' (e1.trans e')
  | bad => exact q
theorem px_if {c a b : Expr} {pos : Pos} {t : T} {f g : E} (hc : PT X c (tT G W t)) (ha : PE X a (tE G W f)) (hb : PE X b (tE G W g)) : PE X (.IfExp c a b pos) (tE G W (eIf t f g)) := by
  refine PE.of (pe_ifExp hc ha hb) fun σ H Q ⟨fp, fv, ρ, I, q⟩ => ?_
  refine tT.of_bind (y := yE G W fp σ H Q) I q (fun e h => h) (fun h => h) fun b q H1 e1 => ?_
  cases b with
  | true =>
    rw [if_pos rfl] at q
    exact iteT ⟨fp, fv, ρ, I.same e1, yE.back e1 q⟩
  | false =>
    rw [if_neg Bool.false_ne_true] at q
    exact iteF ⟨fp, fv, ρ, I.same e1, yE.back e1 q⟩
/-- and, or, not of truths as values -/
def eB (t : T) : E := fun ρ => (t ρ).bind fun b => .ok (.bl b, .fr)
def blD : D → Option Bool
  | .bl b => some b
  | _ => none
def eAndV (f g : E) : E := fun ρ => (f ρ).bind fun a => match a.1 with
  | .bl true => g ρ
  | .bl false => .ok (.bl false, .fr)
  | _ => .bad
def eOrV (f g : E) : E := fun ρ => (f ρ).bind fun a => match a.1 with
  | .bl true => .ok (.bl true, .fr)
  | .bl false => g ρ
  | _ => .bad
def eNotV (f : E) : E := fun ρ => (f ρ).bind fun a => match a.1 with
  | .bl b => .ok (.bl (!b), .fr)
  | _ => .bad
theorem fr_bl {H H' : Hp} {b : Bool} {fp : Nat → List Addr} : VOk G fp H H' .fr (.bl b) (.bl b) := ⟨[], ⟨rfl, rfl⟩, List.nodup_nil, fun _ z => by cases z⟩
theorem px_one {o : BoolOp} {a : Expr} {pos : Pos} {f : E} (h : PE X a (tE G W f)) : PE X (.BoolOp o [a] pos) (tE G W f) := pe_one h
theorem px_and {a b : Expr} {rest : List Expr} {pos : Pos} {f g : E} (h : PE X a (tE G W f)) (hs : PE X (.BoolOp .And (b :: rest) pos) (tE G W g)) : PE X (.BoolOp .And (a :: b :: rest) pos) (tE G W (eAndV f g)) := by
  refine PE.of (pe_and h hs) fun σ H Q ⟨fp, fv, ρ, I, q⟩ => ?_
  refine tE.of_bind (y := yE G W fp σ H Q) I q (fun e h => h) (fun h => h) fun d m q v H1 e1 v1 => ?_
  cases d with
  | bl b =>
    refine ⟨b, v1.tr, ?_⟩
    cases b with
    | true => exact iteT ⟨fp, fv, ρ, I.same e1, yE.back e1 q⟩
    | false => exact iteF (q _ H1 e1 fr_bl)
  | _ => exact q.elim
theorem px_or {a b : Expr} {rest : List Expr} {pos : Pos} {f g : E} (h : PE X a (tE G W f)) (hs : PE X (.BoolOp .Or (b :: rest) pos) (tE G W g)) : PE X (.BoolOp .Or (a :: b :: rest) pos) (tE G W (eOrV f g)) := by
  refine PE.of (pe_or h hs) fun σ H Q ⟨fp, fv, ρ, I, q⟩ => ?_
  refine tE.of_bind (y := yE G W fp σ H Q) I q (fun e h => h) (fun h => h) fun d m q v H1 e1 v1 => ?_
  cases d with
  | bl b =>
    refine ⟨b, v1.tr, ?_⟩
    cases b with
    | true => exact iteT (q _ H1 e1 fr_bl)
    | false => exact iteF ⟨fp, fv, ρ, I.same e1, yE.back e1 q⟩
  | _ => exact q.elim
theorem px_not {a : Expr} {pos : Pos} {f : E} (h : PE X a (tE G W f)) : PE X (.UnaryOp .Not a pos) (tE G W (eNotV f)) := by
  refine PE.of (pe_not h) fun σ H Q ⟨fp, fv, ρ, I, q⟩ => ?_
  refine tE.of_bind (y := yE G W fp σ H Q) I q (fun e h => h) (fun h => h) fun d m q v H1 e1 v1 => ?_
  cases d with
  | bl b => exact ⟨b, v1.tr, q _ H1 e1 fr_bl⟩
  | _ => exact q.elim
/-- a op b op' c -/
def eChain (o o' : D → D → Option D) (f g h : E) : E := fun ρ => (f ρ).bind fun a => (g ρ).bind fun b => (R.opt (o a.1 b.1)).bind fun c => match c with
  | .bl true => (h ρ).bind fun d => (R.opt (o' b.1 d.1)).bind fun z => .ok (z, .fr)
  | .bl false => .ok (.bl false, .fr)
  | _ => .bad
theorem tE.chain {o o' : D → D → Option D} {r r' : R2} (ho : Op2 G r o) (ho' : Op2 G r' o') {f g h : E} {σ : L2.St} {H : Hp} {Q : VK} (w : tE G W (eChain o o' f g h) σ H Q) : tChain r r' (tE G W f) (tE G W g) (tE G W h) σ H Q := by
  obtain ⟨fp, fv, ρ, I, q⟩ := w
  refine tE.of_bind (y := yE G W fp σ H Q) I q (fun e h => h) (fun h => h) fun d m q v H1 e1 v1 => ?_
  have I1 := I.same e1
  refine tE.of_bind (y := yE G W fp σ H Q) I1 q (fun e h H' e' => h H' (e1.trans e')) (fun h => h) fun d2 m2 q v2 H2 e2 v2' => ?_
  have I2 := I1.same e2
  have e12 := e1.trans e2
  cases z : o d d2 with
  | none =>
    simp only [z, R.opt, R.bind] at q
    exact q.elim
  | some c =>
    simp only [z, R.opt, R.bind] at q
    refine ho v v2 d d2 H2 (v1.same e2).tr v2'.tr c z _ fun v3 H3 e3 fr3 => ?_
    have e13 := e12.trans e3
    have r3 : Rep G Nav H3 c v3 := fr3.rep fun _ z => z.elim
    cases c with
    | bl b =>
      refine ⟨b, r3, ?_⟩
      cases b with
      | true =>
        refine iteT ?_
        refine tE.of_bind (y := yE G W fp σ H Q) (I2.same e3) q (fun e h H' e' => h H' (e13.trans e')) (fun h => h) fun d4 m4 q v4 H4 e4 w4 => ?_
        cases z' : o' d2 d4 with
        | none =>
          simp only [z', R.opt, R.bind] at q
          exact q.elim
        | some c' =>
          simp only [z', R.opt, R.bind] at q
          exact ho' v2 v4 d2 d4 H4 ((v2'.same e3).same e4).tr w4.tr c' z' Q fun v5 H5 e5 fr5 => q v5 H5 ((e13.trans e4).trans e5) (fr5.back (e13.trans e4))
      | false => exact iteF (q _ H3 e13 fr_bl)
    | _ => exact q.elim
theorem px_chain {op op' : CmpOp} {r r' : R2} {o o' : D → D → Option D} {a b c : Expr} {pos : Pos} {f g h : E} (hr : OpR X (compareOp op) r) (ho : Op2 G r o) (hr' : OpR X (compareOp op') r') (ho' : Op2 G r' o')
    (ha : PE X a (tE G W f)) (hb : PE X b (tE G W g)) (hc : PE X c (tE G W h)) (hm : lastMarks [op, op'] [b, c] = false := by with_unfolding_all rfl) : PE X (.Compare a [op, op'] [b, c] pos) (tE G W (eChain o o' f g h)) :=
  PE.of (pe_chain hr hr' ha hb hc hm) fun _ _ _ w => tE.chain ho ho' w
theorem pt_ofChain {op op' : CmpOp} {r r' : R2} {o o' : D → D → Option D} {a b c : Expr} {pos : Pos} {f g h : E} (hr : OpR X (compareOp op) r) (ho : Op2 G r o) (hr' : OpR X (compareOp op') r') (ho' : Op2 G r' o')
    (ha : PE X a (tE G W f)) (hb : PE X b (tE G W g)) (hc : PE X c (tE G W h)) (hm : lastMarks [op, op'] [b, c] = false := by with_unfolding_all rfl) : PT X (.Compare a [op, op'] [b, c] pos) (tT G W (tOf (eChain o o' f g h))) :=
  PT.of (pt_chain hr hr' ha hb hc hm) fun _ _ _ w => tT.test (fun _ _ _ => tE.chain ho ho') w
end
end Dn
set_option Elab.async false
set_option linter.all false
set_option maxRecDepth 100000
set_option maxHeartbeats 2000000
/-! Dn4: statements, loops. -/
namespace Dn
open PySem L2

/-- all slots, and what a def has to keep: H0 its entry, io what it may change -/
structure FSR (G : Cts) (H0 : Hp) (io : Addr → Prop) (fp : Nat → List Addr) (fv : Nat → Option V) (σ : L2.St) (H : Hp) (ρ : Rho) : Prop where
  l : LSR G fp fv σ H ρ
  keep : ∀ a o, ¬ io a → H0 a = some o → H a = some o
  tk : Tk G H0 H
  src : ∀ i, ∀ a ∈ fp i, io a ∨ H0 a = none

inductive SO where
  | nx (ρ : Rho)
  | ct (ρ : Rho)
  | bk (ρ : Rho)
  | rt (d : D) (ρ : Rho)
  | ex (e : Nat) (ρ : Rho)
  | bad
abbrev S := Rho → SO

def RtOk (G : Cts) (H0 : Hp) (io : Addr → Prop) (fv : Nat → Option V) (ρ : Rho) (d : D) (v : V) (H : Hp) : Prop :=
  ∃ σ fp f, FSR G H0 io fp fv σ H ρ ∧ OT G H d v f ∧ f.Nodup ∧ ∀ a ∈ f, (io a ∨ H0 a = none) ∧ ∀ i, a ∉ fp i
def SK (G : Cts) (W : WX) (H0 : Hp) (io : Addr → Prop) (fv : Nat → Option V) (D' : Ends) : SO → Prop
  | .nx ρ => ∀ σ H fp, FSR G H0 io fp fv σ H ρ → D'.nx σ H
  | .ct ρ => ∀ σ H fp, FSR G H0 io fp fv σ H ρ → D'.ct σ H
  | .bk ρ => ∀ σ H fp, FSR G H0 io fp fv σ H ρ → D'.bk σ H
  | .rt d ρ => ∀ v H, RtOk G H0 io fv ρ d v H → D'.rt v H
  | .ex e ρ => ∀ σ H fp, FSR G H0 io fp fv σ H ρ → W (.ref (G.cls e)) none σ H
  | .bad => False
def tS (G : Cts) (W : WX) (f : S) : TS := fun D' σ H => ∃ H0 io fp fv ρ, FSR G H0 io fp fv σ H ρ ∧ SK G W H0 io fv D' (f ρ)

section
variable {G : Cts} {W : WX} {H0 H H' H1 : Hp} {io : Addr → Prop} {fp fp' : Nat → List Addr} {fv : Nat → Option V} {σ σ' : L2.St} {ρ ρ' : Rho}
theorem FSR.same (I : FSR G H0 io fp fv σ H ρ) (e : Same H H') : FSR G H0 io fp fv σ H' ρ := ⟨I.l.same e, fun a o n h => e a o (I.keep a o n h), I.tk.trans (tk_same e), I.src⟩
theorem FSR.fresh (I : FSR G H0 io fp fv σ H ρ) {a : Addr} (h : H a = none) : io a ∨ H0 a = none := by
  by_cases n : io a
  · exact .inl n
  · refine .inr ?_
    cases q : H0 a with
    | none => rfl
    | some o =>
      rw [I.keep a o n q] at h
      cases h
/-- what was reached from a later start -/
theorem FSR.trans (I : FSR G H0 io fp fv σ H ρ) (e : Same H H1) (J : FSR G H1 (Own fp) fp' fv σ' H' ρ') : FSR G H0 io fp' fv σ' H' ρ' := by
  refine ⟨J.l, fun a o n h => ?_, (I.tk.trans (tk_same e)).trans J.tk, fun i a ha => ?_⟩
  · refine J.keep a o (fun ⟨j, hj⟩ => ?_) (e a o (I.keep a o n h))
    rcases I.src j a hj with z | z
    · exact n z
    · rw [h] at z
      cases z
  · rcases J.src i a ha with ⟨j, hj⟩ | z
    · exact I.src j a hj
    · exact I.fresh (e.free z)
theorem FSR.here (I : LSR G fp fv σ H ρ) : FSR G H (Own fp) fp fv σ H ρ := ⟨I, fun _ _ _ h => h, Tk.refl, fun i a ha => .inl ⟨i, ha⟩⟩
theorem RtOk.trans {d : D} {v : V} (I : FSR G H0 io fp fv σ H ρ) (e : Same H H1) (J : RtOk G H1 (Own fp) fv ρ' d v H') : RtOk G H0 io fv ρ' d v H' := by
  obtain ⟨σ2, fp2, f, J, o, n, s⟩ := J
  refine ⟨σ2, fp2, f, I.trans e J, o, n, fun a ha => ⟨?_, (s a ha).2⟩⟩
  rcases (s a ha).1 with ⟨j, hj⟩ | z
  · exact I.src j a hj
  · exact I.fresh (e.free z)
theorem SK.trans {D' : Ends} {r : SO} (I : FSR G H0 io fp fv σ H ρ) (e : Same H H1) (h : SK G W H0 io fv D' r) : SK G W H1 (Own fp) fv D' r := by
  cases r with
  | nx ρ => exact fun σ' H' fp' J => h σ' H' fp' (I.trans e J)
  | ct ρ => exact fun σ' H' fp' J => h σ' H' fp' (I.trans e J)
  | bk ρ => exact fun σ' H' fp' J => h σ' H' fp' (I.trans e J)
  | rt d ρ => exact fun v H' J => h v H' (J.trans I e)
  | ex x ρ => exact fun σ' H' fp' J => h σ' H' fp' (I.trans e J)
  | bad => exact h

/-! ### a slot is stored -/
def stSl (i : Nat) (d : D) (m : Md) (ρ : Rho) : Option Rho := match ρ[i]? with
  | none => none
  | some (.io _) => none
  | some _ => match m with
    | .fr => if d.imm then some (ρ.set i (.shr d)) else some (ρ.set i (.own d))
    | .sh => some (ρ.set i (.shr d))
    | .tr => none
def upF (fp : Nat → List Addr) (i : Nat) (f : List Addr) : Nat → List Addr := fun j => if j = i then f else fp j
theorem upF_same {i : Nat} {f : List Addr} : upF fp i f i = f := by unfold upF; rw [if_pos rfl]
theorem upF_ne {i j : Nat} {f : List Addr} (h : j ≠ i) : upF fp i f j = fp j := by unfold upF; rw [if_neg h]
theorem SlOk.weak {av av' : Addr → Prop} {f : List Addr} {w : Option (Option V)} {x : Option V} (k : ∀ a, (∃ o, H a = some o) → av' a → av a) : ∀ {s : Sl}, SlOk G av H f w x s → SlOk G av' H f w x s
  | .nil, _ => trivial
  | .shr d, ⟨v, h1, h2⟩ => ⟨v, h1, Rep.weak k d v h2⟩
  | .own d, h => h
  | .io d, h => h
/-- the slot i gets another value, its own addresses are f from then on -/
theorem LSR.put (I : LSR G fp fv σ H ρ) (e : Same H H') {i : Nat} {s : Sl} {v : V} {f : List Addr} (hi : i < ρ.length) (hn : f.Nodup) (hf : ∀ a ∈ f, H a = none) (ha : ∀ a ∈ f, ∃ o, H' a = some o)
    (hs : SlOk G (Own (upF fp i f)) H' f (some (some v)) (fv i) s) : LSR G (upF fp i f) fv (σ.set i (some v)) H' (ρ.set i s) := by
  have J := I.same e
  have wk : ∀ a, (∃ o, H a = some o) → Own (upF fp i f) a → Own fp a := fun a ⟨o, q⟩ ⟨j, hj⟩ => by
    by_cases z : j = i
    · subst z
      rw [upF_same] at hj
      rw [hf a hj] at q
      cases q
    · rw [upF_ne z] at hj
      exact ⟨j, hj⟩
  refine ⟨by rw [List.length_set, List.length_set, I.len], fun j => ?_, fun j k hjk a hj hk => ?_, fun j a hj => ?_, fun j t hj => ?_⟩
  · by_cases z : j = i
    · subst z
      rw [upF_same]
      exact hn
    · rw [upF_ne z]
      exact I.nd j
  · by_cases z : j = i
    · subst z
      rw [upF_same] at hj
      rw [upF_ne (Ne.symm hjk)] at hk
      obtain ⟨o, q⟩ := I.al k a hk
      rw [hf a hj] at q
      cases q
    · rw [upF_ne z] at hj
      by_cases z' : k = i
      · subst z'
        rw [upF_same] at hk
        obtain ⟨o, q⟩ := I.al j a hj
        rw [hf a hk] at q
        cases q
      · rw [upF_ne z'] at hk
        exact I.dj j k hjk a hj hk
  · by_cases z : j = i
    · subst z
      rw [upF_same] at hj
      exact ha a hj
    · rw [upF_ne z] at hj
      exact J.al j a hj
  · by_cases z : j = i
    · subst z
      rw [upF_same, List.getElem?_set_self (by rw [I.len]; exact hi)]
      rw [List.getElem?_set_self hi] at hj
      cases hj
      exact hs
    · rw [upF_ne z, List.getElem?_set_ne (Ne.symm z)]
      rw [List.getElem?_set_ne (Ne.symm z)] at hj
      exact ((I.sl j t hj).weak wk).same e
theorem LSR.store (I : LSR G fp fv σ H ρ) (e : Same H H') {i : Nat} {d : D} {m : Md} {v : V} (h : VOk G fp H H' m d v) (hs : stSl i d m ρ = some ρ') :
    ∃ fp', LSR G fp' fv (σ.set i (some v)) H' ρ' ∧ ∀ j a, a ∈ fp' j → a ∈ fp j ∨ H a = none := by
  unfold stSl at hs
  cases q : ρ[i]? with
  | none =>
    rw [q] at hs
    cases hs
  | some s =>
    rw [q] at hs
    have hi : i < ρ.length := (List.getElem?_eq_some_iff.mp q).1
    have sub : ∀ f : List Addr, (∀ a ∈ f, H a = none) → ∀ j a, a ∈ upF fp i f j → a ∈ fp j ∨ H a = none := fun f hf j a ha => by
      by_cases z : j = i
      · subst z
        rw [upF_same] at ha
        exact .inr (hf a ha)
      · rw [upF_ne z] at ha
        exact .inl ha
    have own0 : ∀ a, (∃ o, H' a = some o) → Own (upF fp i []) a → Own fp a := fun a _ ⟨j, hj⟩ => by
      by_cases z : j = i
      · subst z
        rw [upF_same] at hj
        cases hj
      · rw [upF_ne z] at hj
        exact ⟨j, hj⟩
    have shr : Rep G (Own fp) H' d v → ∃ fp', LSR G fp' fv (σ.set i (some v)) H' (ρ.set i (.shr d)) ∧ ∀ j a, a ∈ fp' j → a ∈ fp j ∨ H a = none := fun r =>
      ⟨upF fp i [], I.put e hi List.nodup_nil (fun _ z => by cases z) (fun _ z => by cases z) ⟨v, rfl, Rep.weak own0 d v r⟩, sub [] fun _ z => by cases z⟩
    have main : ∀ ρ'', (match m with
        | .fr => if d.imm then some (ρ.set i (.shr d)) else some (ρ.set i (.own d))
        | .sh => some (ρ.set i (.shr d))
        | .tr => none) = some ρ'' → ∃ fp', LSR G fp' fv (σ.set i (some v)) H' ρ'' ∧ ∀ j a, a ∈ fp' j → a ∈ fp j ∨ H a = none := fun ρ'' hm => by
      cases m with
      | fr =>
        by_cases im : d.imm = true
        · simp only [im, if_true] at hm
          cases hm
          exact shr (VOk.sh I (fun z => by cases z) h)
        · simp only [im] at hm
          cases hm
          obtain ⟨f, a1, a2, a3⟩ := h
          exact ⟨upF fp i f, I.put e hi a2 a3 (fun a ha => let ⟨o, q, _⟩ := OT.there d v f a1 a ha; ⟨o, q⟩) ⟨v, rfl, a1⟩, sub f a3⟩
      | sh =>
        cases hm
        exact shr h
      | tr => cases hm
    cases s with
    | io _ => cases hs
    | nil => exact main _ hs
    | shr _ => exact main _ hs
    | own _ => exact main _ hs
theorem FSR.store (I : FSR G H0 io fp fv σ H ρ) (e : Same H H') {i : Nat} {d : D} {m : Md} {v : V} (h : VOk G fp H H' m d v) (hs : stSl i d m ρ = some ρ') : ∃ fp', FSR G H0 io fp' fv (σ.set i (some v)) H' ρ' := by
  obtain ⟨fp', J, k⟩ := I.l.store e h hs
  refine ⟨fp', J, (I.same e).keep, (I.same e).tk, fun j a ha => ?_⟩
  rcases k j a ha with z | z
  · exact I.src j a z
  · exact I.fresh z
/-- what a slot owns is changed in place -/
theorem LSR.mut (I : LSR G fp fv σ H ρ) {i : Nat} {s : Sl} {f : List Addr} (hi : i < ρ.length) (k : ∀ a o, a ∉ fp i → H a = some o → H' a = some o) (t : Tk G H H') (hn : f.Nodup) (hf : ∀ a ∈ f, a ∈ fp i ∨ H a = none)
    (ha : ∀ a ∈ f, ∃ o, H' a = some o) (hs : SlOk G (Own (upF fp i f)) H' f (σ[i]?) (fv i) s) : LSR G (upF fp i f) fv σ H' (ρ.set i s) := by
  have wk : ∀ a, (∃ o, H a = some o) → Own (upF fp i f) a → Own fp a := fun a ⟨o, q⟩ ⟨j, hj⟩ => by
    by_cases z : j = i
    · subst z
      rw [upF_same] at hj
      rcases hf a hj with w | w
      · exact ⟨j, w⟩
      · rw [w] at q
        cases q
    · rw [upF_ne z] at hj
      exact ⟨j, hj⟩
  have apart : ∀ j a, j ≠ i → a ∈ fp j → a ∉ f := fun j a z hj hm => by
    rcases hf a hm with w | w
    · exact I.dj j i z a hj w
    · obtain ⟨o, q⟩ := I.al j a hj
      rw [w] at q
      cases q
  refine ⟨by rw [List.length_set, I.len], fun j => ?_, fun j l hjl a hj hl => ?_, fun j a hj => ?_, fun j u hj => ?_⟩
  · by_cases z : j = i
    · subst z
      rw [upF_same]
      exact hn
    · rw [upF_ne z]
      exact I.nd j
  · by_cases z : j = i
    · subst z
      rw [upF_same] at hj
      rw [upF_ne (Ne.symm hjl)] at hl
      exact apart l a (Ne.symm hjl) hl hj
    · rw [upF_ne z] at hj
      by_cases z' : l = i
      · subst z'
        rw [upF_same] at hl
        exact apart j a z hj hl
      · rw [upF_ne z'] at hl
        exact I.dj j l hjl a hj hl
  · by_cases z : j = i
    · subst z
      rw [upF_same] at hj
      exact ha a hj
    · rw [upF_ne z] at hj
      obtain ⟨o, q⟩ := I.al j a hj
      exact ⟨o, k a o (I.dj j i z a hj) q⟩
  · by_cases z : j = i
    · subst z
      rw [upF_same]
      rw [List.getElem?_set_self hi] at hj
      cases hj
      exact hs
    · rw [upF_ne z]
      rw [List.getElem?_set_ne (Ne.symm z)] at hj
      have old := I.sl j u hj
      have eqs : ∀ a ∈ fp j, H' a = H a := fun a hm => by
        obtain ⟨o, q⟩ := I.al j a hm
        rw [q, k a o (I.dj j i z a hm) q]
      cases u with
      | nil => exact trivial
      | shr d =>
        obtain ⟨v, h1, h2⟩ := old
        have r1 : Rep G (fun a => Own fp a ∨ Own (upF fp i f) a) H d v := Rep.weak (fun a o z => z.elim id (wk a o)) d v h2
        have r2 : Rep G (fun a => Own fp a ∨ Own (upF fp i f) a) H' d v := Rep.ext t (fun a o n q => k a o (fun m => n (.inl ⟨i, m⟩)) q) d v r1
        exact ⟨v, h1, Rep.weak (fun a _ z => .inr z) d v r2⟩
      | own d =>
        obtain ⟨v, h1, h2⟩ := old
        exact ⟨v, h1, OT.ext t d v (fp j) eqs h2⟩
      | io d =>
        obtain ⟨v, h1, h3, h2⟩ := old
        exact ⟨v, h1, h3, OT.ext t d v (fp j) eqs h2⟩
theorem FSR.mut (I : FSR G H0 io fp fv σ H ρ) {i : Nat} {s : Sl} {f : List Addr} (hi : i < ρ.length) (k : ∀ a o, a ∉ fp i → H a = some o → H' a = some o) (t : Tk G H H') (hn : f.Nodup) (hf : ∀ a ∈ f, a ∈ fp i ∨ H a = none)
    (ha : ∀ a ∈ f, ∃ o, H' a = some o) (hs : SlOk G (Own (upF fp i f)) H' f (σ[i]?) (fv i) s) : FSR G H0 io (upF fp i f) fv σ H' (ρ.set i s) := by
  refine ⟨I.l.mut hi k t hn hf ha hs, fun a o n h => ?_, I.tk.trans t, fun j a hj => ?_⟩
  · refine k a o (fun m => ?_) (I.keep a o n h)
    rcases I.src i a m with z | z
    · exact n z
    · rw [h] at z
      cases z
  · by_cases z : j = i
    · subst z
      rw [upF_same] at hj
      rcases hf a hj with w | w
      · exact I.src j a w
      · exact I.fresh w
    · rw [upF_ne z] at hj
      exact I.src j a hj
end

/-! ### statements -/
section
variable {X : Cx} {G : Cts} {W : WX}
theorem tE.st {f : E} {y : R (D × Md) → Prop} {H0 H : Hp} {io : Addr → Prop} {fp : Nat → List Addr} {fv : Nat → Option V} {σ : L2.St} {ρ : Rho} {Q : VK} (I : FSR G H0 io fp fv σ H ρ) (q : y (f ρ))
    (hx : ∀ e, y (.ex e) → ∀ σ H fp, FSR G H0 io fp fv σ H ρ → W (.ref (G.cls e)) none σ H) (hb : ¬ y .bad)
    (hk : ∀ d m, y (.ok (d, m)) → ∀ v H', Same H H' → VOk G fp H H' m d v → Q v H') : tE G W f σ H Q := by
  refine ⟨fp, fv, ρ, I.l, ?_⟩
  cases h : f ρ with
  | ok r =>
    rw [h] at q
    exact hk r.1 r.2 q
  | ex e =>
    rw [h] at q
    exact fun H' e' => hx e q σ H' fp (I.same e')
  | bad =>
    rw [h] at q
    exact hb q
theorem tT.st {f : T} {y : R Bool → Prop} {H0 H : Hp} {io : Addr → Prop} {fp : Nat → List Addr} {fv : Nat → Option V} {σ : L2.St} {ρ : Rho} {Q : Bool → Hp → Prop} (I : FSR G H0 io fp fv σ H ρ) (q : y (f ρ))
    (hx : ∀ e, y (.ex e) → ∀ σ H fp, FSR G H0 io fp fv σ H ρ → W (.ref (G.cls e)) none σ H) (hb : ¬ y .bad)
    (hk : ∀ b, y (.ok b) → ∀ H', Same H H' → Q b H') : tT G W f σ H Q := by
  refine ⟨fp, fv, ρ, I.l, ?_⟩
  cases h : f ρ with
  | ok r =>
    rw [h] at q
    exact hk r q
  | ex e =>
    rw [h] at q
    exact fun H' e' => hx e q σ H' fp (I.same e')
  | bad =>
    rw [h] at q
    exact hb q
def fSeq (f g : S) : S := fun ρ => match f ρ with
  | .nx ρ' => g ρ'
  | o => o
def fPass : S := fun ρ => .nx ρ
theorem px_seq {st : Stmt} {rest : List Stmt} {f g : S} (h : PS X st (tS G W f)) (hs : PSs X rest (tS G W g)) : PSs X (st :: rest) (tS G W (fSeq f g)) := by
  refine PSs.of (pss_cons h hs) fun D' σ H ⟨H0, io, fp, fv, ρ, I, q⟩ => ⟨H0, io, fp, fv, ρ, I, ?_⟩
  unfold fSeq at q
  cases z : f ρ with
  | nx ρ' =>
    rw [z] at q
    exact fun σ' H' fp' J => ⟨H0, io, fp', fv, ρ', J, q⟩
  | ct ρ' =>
    rw [z] at q
    exact q
  | bk ρ' =>
    rw [z] at q
    exact q
  | rt d ρ' =>
    rw [z] at q
    exact q
  | ex e ρ' =>
    rw [z] at q
    exact q
  | bad =>
    rw [z] at q
    exact q
theorem px_one' {st : Stmt} {f : S} (h : PS X st (tS G W f)) : PSs X [st] (tS G W f) := pss_one h
theorem px_pnil : PSs X [] (tS G W fPass) := PSs.of pss_nil fun D' σ H ⟨H0, io, fp, fv, ρ, I, q⟩ => q σ H fp I
theorem px_pass {pos : Pos} : PS X (.Pass pos) (tS G W fPass) := PS.of ps_pass fun D' σ H ⟨H0, io, fp, fv, ρ, I, q⟩ => q σ H fp I
def sCt : S := fun ρ => .ct ρ
theorem px_ct {pos : Pos} : PS X (.Continue pos) (tS G W sCt) := PS.of ps_continue fun D' σ H ⟨H0, io, fp, fv, ρ, I, q⟩ => q σ H fp I
/-- an expression's end in a statement -/
def onE (r : R (D × Md)) (ρ : Rho) (k : D → Md → SO) : SO := match r with
  | .ok (d, m) => k d m
  | .ex e => .ex e ρ
  | .bad => .bad
def sAsg (i : Nat) (f : E) : S := fun ρ => onE (f ρ) ρ fun d m => match stSl i d (md d m) ρ with
  | some ρ' => .nx ρ'
  | none => .bad
theorem px_asg {i : Nat} {x : Str} {p pos : Pos} {e : Expr} {f : E} (h : PS X (.Assign [.Name x p] e pos) (tAsg (tE G W f) (gName i))) : PS X (.Assign [.Name x p] e pos) (tS G W (sAsg i f)) := by
  refine PS.of h fun D' σ H ⟨H0, io, fp, fv, ρ, I, q⟩ => ?_
  refine tE.st (y := fun r => SK G W H0 io fv D' (onE r ρ _)) I q (fun e h => h) (fun h => h) fun d m q v H1 e1 v1 => ?_
  show D'.nx (σ.set i (some v)) H1
  cases z : stSl i d (md d m) ρ with
  | none =>
    simp only [onE, z] at q
    exact q.elim
  | some ρ' =>
    simp only [onE, z] at q
    obtain ⟨fp', J⟩ := I.store e1 v1.nrm z
    exact q _ _ _ J
def sRet (f : E) : S := fun ρ => onE (f ρ) ρ fun d m => match md d m with
  | .fr => .rt d ρ
  | _ => .bad
theorem RtOk.of {H0 H H1 : Hp} {io : Addr → Prop} {fp : Nat → List Addr} {fv : Nat → Option V} {σ : L2.St} {ρ : Rho} {d : D} {v : V} (I : FSR G H0 io fp fv σ H ρ) (e : Same H H1) (h : Fresh G H H1 d v) : RtOk G H0 io fv ρ d v H1 := by
  obtain ⟨f, a, b, c⟩ := h
  refine ⟨σ, fp, f, I.same e, a, b, fun x hx => ⟨I.fresh (c x hx), fun i hi => ?_⟩⟩
  obtain ⟨o, q⟩ := I.l.al i x hi
  rw [c x hx] at q
  cases q
theorem px_ret {e : Expr} {pos : Pos} {f : E} (h : PE X e (tE G W f)) : PS X (.Return (some e) pos) (tS G W (sRet f)) := by
  refine PS.of (ps_ret h) fun D' σ H ⟨H0, io, fp, fv, ρ, I, q⟩ => ?_
  refine tE.st (y := fun r => SK G W H0 io fv D' (onE r ρ _)) I q (fun e h => h) (fun h => h) fun d m q v H1 e1 v1 => ?_
  have v2 := v1.nrm
  cases z : md d m with
  | fr =>
    simp only [onE, z] at q
    rw [z] at v2
    exact q v H1 (RtOk.of I e1 v2)
  | sh =>
    simp only [onE, z] at q
    exact q.elim
  | tr =>
    simp only [onE, z] at q
    exact q.elim
/-- return x -/
def sRetV (i : Nat) : S := fun ρ => match ρ[i]? with
  | some (.own d) => .rt d (ρ.set i .nil)
  | some (.shr d) => if d.imm then .rt d ρ else .bad
  | _ => .bad
theorem px_retV {e : Expr} {pos : Pos} {i : Nat} (h : PE X e (tVar i)) : PS X (.Return (some e) pos) (tS G W (sRetV i)) := by
  refine PS.of (ps_ret h) fun D' σ H ⟨H0, io, fp, fv, ρ, I, q⟩ => ?_
  unfold sRetV at q
  cases e : ρ[i]? with
  | none =>
    rw [e] at q
    exact q.elim
  | some s =>
    rw [e] at q
    have r := I.l.sl i s e
    have hi : i < ρ.length := (List.getElem?_eq_some_iff.mp e).1
    cases s with
    | nil => exact q.elim
    | io d => exact q.elim
    | shr d =>
      obtain ⟨v, e1, r⟩ := r
      by_cases im : d.imm = true
      · simp only [im, if_true] at q
        exact ⟨v, e1, q v H (RtOk.of I (Same.refl H) (Fresh.of_imm im r))⟩
      · simp only [im] at q
        exact q.elim
    | own d =>
      obtain ⟨v, e1, r⟩ := r
      refine ⟨v, e1, q v H ⟨σ, upF fp i [], fp i, I.mut hi (fun _ _ _ h => h) Tk.refl List.nodup_nil (fun _ z => by cases z) (fun _ z => by cases z) trivial, r, I.l.nd i, fun a ha => ⟨I.src i a ha, fun j hj => ?_⟩⟩⟩
      by_cases z : j = i
      · subst z
        rw [upF_same] at hj
        cases hj
      · rw [upF_ne z] at hj
        exact I.l.dj j i z a hj ha
def sRetN : S := fun ρ => .rt .non ρ
theorem px_retN {pos : Pos} : PS X (.Return none pos) (tS G W sRetN) := PS.of ps_retN fun D' σ H ⟨H0, io, fp, fv, ρ, I, q⟩ => q .non H (RtOk.of I (Same.refl H) (Fresh.of_imm (av := Nav) rfl rfl))
def sDrop (f : E) : S := fun ρ => onE (f ρ) ρ fun _ _ => .nx ρ
theorem px_drop {e : Expr} {pos : Pos} {f : E} (h : PE X e (tE G W f)) (hs : swapsWith e none pos.line X.env = pure false := by rfl) : PS X (.Expr e pos) (tS G W (sDrop f)) := by
  refine PS.of (ps_expr h hs) fun D' σ H ⟨H0, io, fp, fv, ρ, I, q⟩ => ?_
  exact tE.st (y := fun r => SK G W H0 io fv D' (onE r ρ _)) I q (fun e h => h) (fun h => h) fun d m q v H1 e1 v1 => q σ H1 fp (I.same e1)
def onT (r : R Bool) (ρ : Rho) (k : Bool → SO) : SO := match r with
  | .ok b => k b
  | .ex e => .ex e ρ
  | .bad => .bad
def sIf (t : T) (f g : S) : S := fun ρ => onT (t ρ) ρ fun b => if b = true then f ρ else g ρ
theorem px_ifs {c : Expr} {a b : List Stmt} {pos : Pos} {t : T} {f g : S} (hc : PT X c (tT G W t)) (ha : PSs X a (tS G W f)) (hb : PSs X b (tS G W g)) : PS X (.If c a b pos) (tS G W (sIf t f g)) := by
  refine PS.of (ps_if hc ha hb) fun D' σ H ⟨H0, io, fp, fv, ρ, I, q⟩ => ?_
  refine tT.st (y := fun r => SK G W H0 io fv D' (onT r ρ _)) I q (fun e h => h) (fun h => h) fun b q H1 e1 => ?_
  cases b with
  | true => exact iteT ⟨H0, io, fp, fv, ρ, I.same e1, q⟩
  | false => exact iteF ⟨H0, io, fp, fv, ρ, I.same e1, q⟩
def sRaise (e : Nat) : S := fun ρ => .ex e ρ
theorem px_raise {st : Stmt} {e : Nat} (h : PS X st (fun _ σ H => W (.ref (G.cls e)) none σ H)) : PS X st (tS G W (sRaise e)) := PS.of h fun D' σ H ⟨H0, io, fp, fv, ρ, I, q⟩ => q σ H fp I
/-- what a slot owns is let go: read only from here on -/
def gFz (i : Nat) (ρ : Rho) : Rho := match ρ[i]? with
  | some (.own d) => ρ.set i (.shr d)
  | _ => ρ
def sFz (i : Nat) (f : S) : S := fun ρ => f (gFz i ρ)
theorem FSR.fz {H0 H : Hp} {io : Addr → Prop} {fp : Nat → List Addr} {fv : Nat → Option V} {σ : L2.St} {ρ : Rho} (I : FSR G H0 io fp fv σ H ρ) (i : Nat) : ∃ fp', FSR G H0 io fp' fv σ H (gFz i ρ) := by
  unfold gFz
  cases e : ρ[i]? with
  | none => exact ⟨fp, I⟩
  | some s =>
    have r := I.l.sl i s e
    have hi : i < ρ.length := (List.getElem?_eq_some_iff.mp e).1
    cases s with
    | nil => exact ⟨fp, I⟩
    | io d => exact ⟨fp, I⟩
    | shr d => exact ⟨fp, I⟩
    | own d =>
      obtain ⟨v, e1, r⟩ := r
      refine ⟨upF fp i [], I.mut hi (fun _ _ _ h => h) Tk.refl List.nodup_nil (fun _ z => by cases z) (fun _ z => by cases z) ⟨v, e1, OT.rep d v (fp i) (fun a ha ⟨j, hj⟩ => ?_) r⟩⟩
      by_cases z : j = i
      · subst z
        rw [upF_same] at hj
        cases hj
      · rw [upF_ne z] at hj
        exact I.l.dj j i z a hj ha
theorem px_fz {st : Stmt} {i : Nat} {f : S} (h : PS X st (tS G W f)) : PS X st (tS G W (sFz i f)) := PS.of h fun D' σ H ⟨H0, io, fp, fv, ρ, I, q⟩ =>
  let ⟨fp', J⟩ := I.fz i
  ⟨H0, io, fp', fv, _, J, q⟩
end
end Dn
set_option Elab.async false
set_option linter.all false
set_option maxRecDepth 100000
set_option maxHeartbeats 2000000
/-! Dn5: loops. -/
namespace Dn
open PySem L2

/-- an iterator that walks data, from a heap H1 on -/
def Wk (G : Cts) (av : Addr → Prop) (J : It) (H1 : Hp) (ds : List D) : Prop :=
  ∀ H, Av av H1 H → Tk G H1 H → ∀ i,
    (∀ d, ds[i]? = some d → J.go i H ∧ ∀ x H', J.yld i H x H' → Same H H' ∧ ∀ av', (∀ a, av' a → av a ∨ H1 a = none) → Rep G av' H' d x) ∧
    (ds.length ≤ i → J.stop i H)
abbrev EI := Rho → R (List D)
def tI (G : Cts) (W : WX) (f : EI) : TI := fun σ H Q => ∃ fp fv ρ, LSR G fp fv σ H ρ ∧ match f ρ with
  | .ok ds => ∀ J H1, Same H H1 → Wk G (Own fp) J H1 ds → Q J H1
  | .ex e => ∀ H', Same H H' → W (.ref (G.cls e)) none σ H'
  | .bad => False
/-- a loop's target -/
abbrev Tg := D → Rho → Option Rho
def gS (G : Cts) (st : Tg) : TG := fun v σ H Q => ∃ H0 io fp fv ρ d, FSR G H0 io fp fv σ H ρ ∧ Rep G (Own fp) H d v ∧ ∃ ρ', st d ρ = some ρ' ∧ ∀ σ' H' fp', FSR G H0 io fp' fv σ' H' ρ' → Q σ' H'

def forL (st : Tg) (body : S) : List D → S
  | [], ρ => .nx ρ
  | d :: ds, ρ => match st d ρ with
    | none => .bad
    | some ρ1 => match body ρ1 with
      | .nx ρ2 => forL st body ds ρ2
      | .ct ρ2 => forL st body ds ρ2
      | .bk ρ2 => .nx ρ2
      | o => o
def onI (r : R (List D)) (ρ : Rho) (k : List D → SO) : SO := match r with
  | .ok ds => k ds
  | .ex e => .ex e ρ
  | .bad => .bad
def sFor (it : EI) (st : Tg) (body : S) : S := fun ρ => onI (it ρ) ρ fun ds => forL st body ds ρ
def whL (t : T) (body : S) : Nat → S
  | 0, _ => .bad
  | n + 1, ρ => onT (t ρ) ρ fun b => if b = true then (match body ρ with
      | .nx ρ2 => whL t body n ρ2
      | .ct ρ2 => whL t body n ρ2
      | .bk ρ2 => .nx ρ2
      | o => o) else .nx ρ
def fuel : Nat := 1000000
def sWh (t : T) (body : S) : S := fun ρ => whL t body fuel ρ

section
variable {X : Cx} {G : Cts} {W : WX}
theorem px_for {tg iter : Expr} {body : List Stmt} {pos : Pos} {it : EI} {st : Tg} {f : S} (hp : PassesOwn (model X.prog X.w) X.A X.env X.xe) (hc : X.calm = true) (hi : PI X tg iter (tI G W it)) (hg : PG X tg (gS G st)) (hb : PSs X body (tS G W f))
    (hs : ∀ x, foldedSetIterable iter X.env x = pure x := by intro _; rfl) : PS X (.For tg iter body [] pos) (tS G W (sFor it st f)) := by
  refine PS.of (ps_for hp hc hi hg hb hs) fun D' σ H ⟨H0, io, fp, fv, ρ, I, q⟩ => ?_
  unfold sFor at q
  refine ⟨fp, fv, ρ, I.l, ?_⟩
  cases z : it ρ with
  | bad =>
    rw [z] at q
    exact q
  | ex e =>
    rw [z] at q
    exact fun H' e' => q σ H' fp (I.same e')
  | ok ds =>
    rw [z] at q
    intro J H1 e1 wk
    have q : SK G W H0 io fv D' (forL st f ds ρ) := q
    obtain ⟨out, ho⟩ : ∃ out, forL st f ds ρ = out := ⟨_, rfl⟩
    rw [ho] at q
    refine ⟨fun i m σ' H' => m = ds.length - i ∧ i ≤ ds.length ∧ ∃ fp' ρ', FSR G H1 (Own fp) fp' fv σ' H' ρ' ∧ forL st f (ds.drop i) ρ' = out, ⟨ds.length, rfl, Nat.zero_le _, fp, ρ, FSR.here (I.l.same e1), ho⟩, ?_⟩
    rintro i m σ' H' ⟨rfl, hi', fp', ρ', I', h'⟩
    obtain ⟨w1, w2⟩ := wk H' (fun a o n h => I'.keep a o n h) I'.tk i
    by_cases hlt : i < ds.length
    · have hd : ds[i]? = some ds[i] := List.getElem?_eq_getElem hlt
      obtain ⟨go, yl⟩ := w1 ds[i] hd
      rw [List.drop_eq_getElem_cons hlt] at h'
      unfold forL at h'
      refine .inr ⟨go, fun σ2 H2 => ∃ fp2 ρ2, FSR G H1 (Own fp) fp2 fv σ2 H2 ρ2 ∧ forL st f (ds.drop (i + 1)) ρ2 = out, fun σ2 H2 ⟨fp2, ρ2, I2, h2⟩ => ⟨ds.length - (i + 1), by omega, rfl, hlt, fp2, ρ2, I2, h2⟩, fun x H2 y => ?_⟩
      obtain ⟨e2, rp⟩ := yl x H2 y
      have I2 := I'.same e2
      cases z1 : st ds[i] ρ' with
      | none =>
        simp only [z1] at h'
        subst h'
        exact q.elim
      | some ρ1 =>
        simp only [z1] at h'
        refine ⟨H1, Own fp, fp', fv, ρ', ds[i], I2, rp _ fun a ⟨j, hj⟩ => I'.src j a hj, ρ1, z1, fun σ3 H3 fp3 I3 => ?_⟩
        refine ⟨H1, Own fp, fp3, fv, ρ1, I3, ?_⟩
        cases z2 : f ρ1 with
        | nx ρ2 =>
          simp only [z2] at h'
          exact fun σ4 H4 fp4 I4 => ⟨fp4, ρ2, I4, h'⟩
        | ct ρ2 =>
          simp only [z2] at h'
          exact fun σ4 H4 fp4 I4 => ⟨fp4, ρ2, I4, h'⟩
        | bk ρ2 =>
          simp only [z2] at h'
          subst h'
          exact fun σ4 H4 fp4 I4 => q σ4 H4 fp4 (I.trans e1 I4)
        | rt d ρ2 =>
          simp only [z2] at h'
          subst h'
          exact fun v H4 I4 => q v H4 (I4.trans I e1)
        | ex e ρ2 =>
          simp only [z2] at h'
          subst h'
          exact fun σ4 H4 fp4 I4 => q σ4 H4 fp4 (I.trans e1 I4)
        | bad =>
          simp only [z2] at h'
          subst h'
          exact q
    · have e : i = ds.length := by omega
      subst e
      rw [List.drop_length] at h'
      unfold forL at h'
      subst h'
      exact .inl ⟨w2 (Nat.le_refl _), q σ' H' fp' (I.trans e1 I')⟩
theorem px_wh {c : Expr} {body : List Stmt} {pos : Pos} {t : T} {f : S} (hp : PassesOwn (model X.prog X.w) X.A X.env X.xe) (hc : PT X c (tT G W t)) (hb : PSs X body (tS G W f)) : PS X (.While c body [] pos) (tS G W (sWh t f)) := by
  refine PS.of (ps_while hp hc hb) fun D' σ H ⟨H0, io, fp, fv, ρ, I, q⟩ => ?_
  unfold sWh at q
  obtain ⟨out, ho⟩ : ∃ out, whL t f fuel ρ = out := ⟨_, rfl⟩
  rw [ho] at q
  refine ⟨fun m σ' H' => ∃ fp' ρ', FSR G H0 io fp' fv σ' H' ρ' ∧ whL t f m ρ' = out, ⟨fuel, fp, ρ, I, ho⟩, ?_⟩
  rintro m σ' H' ⟨fp', ρ', I', h'⟩
  cases m with
  | zero =>
    unfold whL at h'
    subst h'
    exact q.elim
  | succ n =>
    unfold whL at h'
    rw [← h'] at q
    refine tT.st (y := fun r => onT r ρ' _ = out ∧ SK G W H0 io fv D' (onT r ρ' _)) I' ⟨h', q⟩ (fun e h => h.2) (fun h => h.2) fun b h H1 e1 => ?_
    obtain ⟨h', q⟩ := h
    have I1 := I'.same e1
    cases b with
    | true =>
      refine iteT ⟨fun σ2 H2 => ∃ fp2 ρ2, FSR G H0 io fp2 fv σ2 H2 ρ2 ∧ whL t f n ρ2 = out, fun σ2 H2 ⟨fp2, ρ2, I2, h2⟩ => ⟨n, Nat.lt_succ_self n, fp2, ρ2, I2, h2⟩, ?_⟩
      refine ⟨H0, io, fp', fv, ρ', I1, ?_⟩
      simp only [onT, if_true] at h' q
      cases z2 : f ρ' with
      | nx ρ2 =>
        simp only [z2] at h'
        exact fun σ4 H4 fp4 I4 => ⟨fp4, ρ2, I4, h'⟩
      | ct ρ2 =>
        simp only [z2] at h'
        exact fun σ4 H4 fp4 I4 => ⟨fp4, ρ2, I4, h'⟩
      | bk ρ2 =>
        simp only [z2] at q
        exact q
      | rt d ρ2 =>
        simp only [z2] at q
        exact q
      | ex e ρ2 =>
        simp only [z2] at q
        exact q
      | bad =>
        simp only [z2] at q
        exact q
    | false =>
      refine iteF ?_
      simp only [onT] at q
      exact q σ' H1 fp' I1

/-! ### targets -/
def tgN (i : Nat) : Tg := fun d ρ => stSl i d .sh ρ
theorem gS.name {i : Nat} {v : V} {σ : L2.St} {H : Hp} {Q : L2.St → Hp → Prop} (h : gS G (tgN i) v σ H Q) : gName i v σ H Q := by
  obtain ⟨H0, io, fp, fv, ρ, d, I, r, ρ', e, k⟩ := h
  obtain ⟨fp', J⟩ := I.store (Same.refl H) (m := .sh) r e
  exact k _ _ _ J
theorem pg_of {tg : Expr} {i : Nat} (h : PG X tg (gName i)) : PG X tg (gS G (tgN i)) := ⟨fun pins s σ H v u Q I r hw => h.run pins s σ H v u Q I r (gS.name hw)⟩
/-- several targets -/
abbrev Tgs := List D → Rho → Option Rho
def gSs (G : Cts) (st : Tgs) : TGs := fun vs σ H Q => ∃ H0 io fp fv ρ ds, FSR G H0 io fp fv σ H ρ ∧ Reps G (Own fp) H ds vs ∧ ∃ ρ', st ds ρ = some ρ' ∧ ∀ σ' H' fp', FSR G H0 io fp' fv σ' H' ρ' → Q σ' H'
def tgsNil : Tgs := fun ds ρ => match ds with
  | [] => some ρ
  | _ => none
def tgsCons (i : Nat) (t : Tgs) : Tgs := fun ds ρ => match ds with
  | d :: r => (stSl i d .sh ρ).bind (t r)
  | [] => none
theorem pgs_ofNil : PGs X [] (gSs G tgsNil) := ⟨fun pins s σ H vs us Q I r hw => pgs_nil.run pins s σ H vs us Q I r (by
  obtain ⟨H0, io, fp, fv, ρ, ds, J, rp, ρ', e, k⟩ := hw
  cases ds with
  | nil =>
    cases e
    exact ⟨rp, k _ _ _ J⟩
  | cons d r => cases e)⟩
theorem store_reps {H0 H : Hp} {io : Addr → Prop} {fp : Nat → List Addr} {fv : Nat → Option V} {σ : L2.St} {ρ ρ' : Rho} {i : Nat} {d : D} {v : V} {ds : List D} {vs : List V} (I : FSR G H0 io fp fv σ H ρ) (r : Rep G (Own fp) H d v) (rs : Reps G (Own fp) H ds vs)
    (e : stSl i d .sh ρ = some ρ') : ∃ fp', FSR G H0 io fp' fv (σ.set i (some v)) H ρ' ∧ Reps G (Own fp') H ds vs := by
  obtain ⟨fp', J, k⟩ := I.l.store (Same.refl H) (m := .sh) r e
  refine ⟨fp', ⟨J, I.keep, I.tk, fun j a ha => ?_⟩, Reps.weak (fun a ⟨o, q⟩ ⟨j, hj⟩ => ?_) ds vs rs⟩
  · rcases k j a ha with z | z
    · exact I.src j a z
    · exact I.fresh z
  · rcases k j a hj with z | z
    · exact ⟨j, z⟩
    · rw [z] at q
      cases q
theorem pgs_ofCons {e : Expr} {es : List Expr} {i : Nat} {t : Tgs} (h1 : PG X e (gName i)) (h2 : PGs X es (gSs G t)) (hs : (assignEach (e :: es) X.env).map (·.2) = assign e X.env :: (assignEach es X.env).map (·.2) := by rfl) : PGs X (e :: es) (gSs G (tgsCons i t)) :=
  ⟨fun pins s σ H vs us Q I r hw => (pgs_cons h1 h2 hs).run pins s σ H vs us Q I r (by
  obtain ⟨H0, io, fp, fv, ρ, ds, J, rp, ρ', e, k⟩ := hw
  cases ds with
  | nil => cases e
  | cons d r =>
    obtain ⟨v, vr, ev, r1, r2⟩ := rp
    cases z : stSl i d .sh ρ with
    | none =>
      simp only [tgsCons, z] at e
      cases e
    | some ρ1 =>
      simp only [tgsCons, z] at e
      obtain ⟨fp', J', r2'⟩ := store_reps J r1 r2 z
      exact ⟨v, vr, ev, H0, io, fp', fv, ρ1, r, J', r2', ρ', e, k⟩)⟩
def tgT (n : Nat) (t : Tgs) : Tg := fun d ρ => match d with
  | .tup ds => if ds.length = n then t ds ρ else none
  | _ => none
theorem pg_ofTup {es : List Expr} {k : Nat} {pos : Pos} {n : Nat} {t : Tgs} (hc : X.calm = true) (h : PGs X es (gSs G t)) (hK : X.K = G.K := by rfl) (hn : (assignEach es X.env).length = n := by rfl) (hst : (assignEach es X.env).findIdx? (·.1) = none := by rfl) :
    PG X (.Tuple es k pos) (gS G (tgT n t)) := ⟨fun pins s σ H v u Q I r hw => (pg_tup hc h hn hst).run pins s σ H v u Q I r (by
  obtain ⟨H0, io, fp, fv, ρ, d, J, rp, ρ', e, k⟩ := hw
  cases d with
  | tup ds =>
    obtain ⟨a, vs, ev, s, rs⟩ := rp
    by_cases hl : ds.length = n
    · simp only [tgT, hl, if_true] at e
      rw [hK]
      exact ⟨a, vs, ev, s, rs.length.symm.trans hl, H0, io, fp, fv, ρ, ds, J, rs, ρ', e, k⟩
    · simp only [tgT, hl, if_false] at e
      cases e
  | _ => cases e)⟩
/-- a, b = e -/
def sAsgT (st : Tg) (f : E) : S := fun ρ => onE (f ρ) ρ fun d m => match m with
  | .tr => if d.imm then (match st d ρ with | some ρ' => .nx ρ' | none => .bad) else .bad
  | _ => match st d ρ with
    | some ρ' => .nx ρ'
    | none => .bad
theorem px_asgT {tg e : Expr} {pos : Pos} {st : Tg} {f : E} (h : PS X (.Assign [tg] e pos) (tAsg (tE G W f) (gS G st))) : PS X (.Assign [tg] e pos) (tS G W (sAsgT st f)) := by
  refine PS.of h fun D' σ H ⟨H0, io, fp, fv, ρ, I, q⟩ => ?_
  refine tE.st (y := fun r => SK G W H0 io fv D' (onE r ρ _)) I q (fun e h => h) (fun h => h) fun d m q v H1 e1 v1 => ?_
  have fin : Rep G (Own fp) H1 d v → SK G W H0 io fv D' (match st d ρ with | some ρ' => .nx ρ' | none => .bad) → gS G st v σ H1 D'.nx := fun r q => by
    cases z : st d ρ with
    | none =>
      rw [z] at q
      exact q.elim
    | some ρ' =>
      rw [z] at q
      exact ⟨H0, io, fp, fv, ρ, d, I.same e1, r, ρ', z, q⟩
  cases m with
  | fr => exact fin (VOk.sh I.l (fun z => by cases z) v1) q
  | sh => exact fin (VOk.sh I.l (fun z => by cases z) v1) q
  | tr =>
    by_cases im : d.imm = true
    · simp only [onE, im, if_true] at q
      exact fin (VOk.sh (m := .fr) I.l (fun z => by cases z) (Fresh.of_imm im v1.tr)) q
    · simp only [onE, im] at q
      exact q.elim
end
end Dn
set_option Elab.async false
set_option linter.all false
set_option maxRecDepth 100000
set_option maxHeartbeats 2000000
/-! Dn6: a def's promise, calls. -/
namespace Dn
open PySem L2

/-- what a body makes of its arguments: n parameters, N names -/
def fnD (n N : Nat) (body : S) (ds : List D) : R D := if ds.length = n then (match body (ds.map Sl.shr ++ List.replicate (N - n) Sl.nil) with
  | .rt d _ => .ok d
  | .nx _ => .ok .non
  | .ex e _ => .ex e
  | _ => .bad) else .bad
/-- the promise of a def that changes none of its arguments -/
def SpF (G : Cts) (n : Nat) (F : List D → R D) : Sp := fun vs H Q E' => vs.length = n ∧ ∃ ds, Reps G Nav H ds vs ∧ match F ds with
  | .ok d => ∀ v H', Same H H' → Fresh G H H' d v → Q v H'
  | .ex e => ∀ H', Same H H' → E' (.ref (G.cls e)) none H'
  | .bad => False
section
variable {G : Cts} {H : Hp}
theorem Reps.get {av : Addr → Prop} : ∀ {ds : List D} {vs : List V} {i : Nat} {d : D}, Reps G av H ds vs → ds[i]? = some d → ∃ v, vs[i]? = some v ∧ Rep G av H d v
  | [], _, _, _, _, e => by simp at e
  | d :: ds, _, 0, d', ⟨v, r, e, h, _⟩, q => by
    simp at q
    subst q e
    exact ⟨v, rfl, h⟩
  | d :: ds, _, i + 1, d', ⟨v, r, e, _, h⟩, q => by
    subst e
    obtain ⟨v', h1, h2⟩ := Reps.get (i := i) h (by simpa using q)
    exact ⟨v', by simpa using h1, h2⟩
theorem LSR.init {ds : List D} {vs : List V} {N : List Str} {n : Nat} (h : Reps G Nav H ds vs) (hn : ds.length = n) (hN : n ≤ N.length) : LSR G (fun _ => []) (fun _ => none) (L2.start N vs) H (ds.map Sl.shr ++ List.replicate (N.length - n) Sl.nil) := by
  have hl := h.length
  refine ⟨?_, fun _ => List.nodup_nil, fun _ _ _ a (z : a ∈ []) => absurd z List.not_mem_nil, fun _ a (z : a ∈ []) => absurd z List.not_mem_nil, fun i s hs => ?_⟩
  · simp only [L2.start, List.length_append, List.length_map, List.length_replicate]
    omega
  · by_cases hi : i < ds.length
    · rw [List.getElem?_append_left (by rw [List.length_map]; exact hi), List.getElem?_map] at hs
      obtain ⟨d, hd⟩ : ∃ d, ds[i]? = some d := ⟨ds[i], List.getElem?_eq_getElem hi⟩
      rw [hd] at hs
      cases hs
      obtain ⟨v, hv, r⟩ := h.get hd
      refine ⟨v, ?_, Rep.weak (fun a _ ⟨_, z⟩ => by cases z) d v r⟩
      unfold L2.start
      rw [List.getElem?_append_left (by rw [List.length_map, ← hl]; exact hi), List.getElem?_map, hv]
      rfl
    · rw [List.getElem?_append_right (by rw [List.length_map]; omega)] at hs
      have hm : s ∈ List.replicate (N.length - n) Sl.nil := List.mem_of_getElem? hs
      rw [List.mem_replicate] at hm
      obtain ⟨_, rfl⟩ := hm
      exact trivial
end
section
variable {P : Program} {w : World} {K : PySem.W.Frag} {mg : Str → Option Value} {base : Heap} {G : Cts}
/-- a def by its body's denotation -/
theorem fn_den {x qual : Str} {st : Stmt} {f : Addr} {fd : FuncData} {N ps : List Str} {k : Nat} {body : S} (F : Fun G.K x qual st f fd) (sc : FnScope N ps (defScope st)) (hN : ps.length ≤ N.length)
    (hbody : ∀ (cdv : Value) (A : Around) (outer : List Env) (s : Shared) (H : Hp) (E' : XK), Room k (A.deeper (PyProof.Rows.envOfC qual (defScope st) s.heap.objs.size f cdv)) →
      Takes (cxOf (L2.CX P w) P w G.K mg base N qual (defScope st) f cdv A outer s H E') (fun cls d _ H => E' cls d H) →
      (let X := cxOf (L2.CX P w) P w G.K mg base N qual (defScope st) f cdv A outer s H E'; PassesOwn (model X.prog X.w) X.A X.env X.xe) →
      PSs (cxOf (L2.CX P w) P w G.K mg base N qual (defScope st) f cdv A outer s H E') (defBody st) (tS G (fun cls d _ H => E' cls d H) body)) :
    FnOk P w G.K mg base (L2.CX P w) (k + 1) f fd ps (SpF G ps.length (fnD ps.length N.length body)) := by
  refine F.okX sc (fun vs H Q E' h => h.1) fun cdv A outer s H vs Q E' hr h => ⟨_, hbody cdv A outer s H E' hr (takes_of rfl rfl rfl rfl) (passes_of rfl), ?_⟩
  obtain ⟨hl, ds, r, q⟩ := h
  have hd : ds.length = ps.length := r.length.trans hl
  refine ⟨H, fun _ => False, fun _ => [], fun _ => none, ds.map Sl.shr ++ List.replicate (N.length - ps.length) Sl.nil, ⟨LSR.init r hd hN, fun _ _ _ z => z, Tk.refl, fun _ _ z => by cases z⟩, ?_⟩
  unfold fnD at q
  rw [if_pos hd] at q
  cases z : body (ds.map Sl.shr ++ List.replicate (N.length - ps.length) Sl.nil) with
  | nx ρ =>
    rw [z] at q
    exact fun σ' H' fp' J => q .non H' (fun a o h => J.keep a o (fun z => z) h) (Fresh.of_imm (av := Nav) rfl rfl)
  | rt d ρ =>
    rw [z] at q
    rintro v H' ⟨σ', fp', f', J, o, n, s'⟩
    exact q v H' (fun a o h => J.keep a o (fun z => z) h) ⟨f', o, n, fun a ha => (s' a ha).1.elim False.elim id⟩
  | ex e ρ =>
    rw [z] at q
    exact fun σ' H' fp' J => q H' (fun a o h => J.keep a o (fun z => z) h)
  | ct ρ =>
    rw [z] at q
    exact q.elim
  | bk ρ =>
    rw [z] at q
    exact q.elim
  | bad =>
    rw [z] at q
    exact q.elim
/-- a def as its callers see it -/
structure Cal (G : Cts) (P : Program) (w : World) (mg : Str → Option Value) (base : Heap) (k : Nat) (x : Str) (ps : List Str) (F : List D → R D) : Prop where
  len : ∀ ds : List D, ds.length ≠ ps.length → F ds = .bad
  at' : ∃ f fd, FnOk P w G.K mg base (L2.CX P w) k f fd ps (SpF G ps.length F) ∧ mg x = some (.ref f) ∧ PySem.W.keepIn G.K (.ref f) = true ∧ Binds G.K fd ps [] ∧ ∃ oc od sl, G.K.lookup f = some ⟨oc, od, .func fd, sl⟩
end
section
variable {X : Cx} {G : Cts} {W : WX}
def eCall (F : List D → R D) (g : EA) : E := fun ρ => (g ρ).bind fun a => (F a.1).bind fun d => .ok (d, .fr)
theorem px_call {x : Str} {ps : List Str} {k j : Nat} {F : List D → R D} {g : EA} {p pos : Pos} {e : Expr} {es : List Expr} (c : Cal G X.prog X.w X.mg X.base k x ps F) (hr : Room j X.A) (hj : k ≤ j) (hg : Gl X x) (tk : Takes X W)
    (ha : PA X (e :: es) (tA G W g)) (hK : X.K = G.K := by rfl) (hdb : (x == ("__debug__" : Str)) = false := by decide) (he : starEach (e :: es) X.env = (false, eval e X.env) :: starEach es X.env := by rfl) (hpl : (backTo pos (starEach es X.env)).any (·.1) = false := by rfl) :
    PE X (.Call (.Name x p) (e :: es) [] pos) (tE G W (eCall F g)) := by
  obtain ⟨f, fd, ok, hm, hk, hb, _⟩ := c.at'
  refine PE.of (pe_callS (E := WE W) (by rw [hK]; exact ok) (hr.mono hj) hg hm (by rw [hK]; exact hk) (by rw [hK]; exact hb) (fun σ => passAt tk σ) ha hdb he hpl) fun σ H Q ⟨fp, fv, ρ, I, q⟩ => ?_
  refine tA.of_bind (y := yE G W fp σ H Q) I q (fun e h => h) (fun h => h) fun ds m q vs H1 e1 v1 => ?_
  have hd : ds.length = ps.length := by
    by_cases z : ds.length = ps.length
    · exact z
    · rw [c.len ds z] at q
      exact q.elim
  refine ⟨v1.length.symm.trans hd, ds, v1.tr, ?_⟩
  cases z : F ds with
  | ok d =>
    simp only [z] at q
    exact fun v H' e' f' => q v H' (e1.trans e') (f'.back e1)
  | ex e =>
    simp only [z] at q
    exact fun H' e' => q H' (e1.trans e')
  | bad =>
    simp only [z] at q
    exact q
end
end Dn
set_option Elab.async false
set_option linter.all false
set_option maxRecDepth 100000
set_option maxHeartbeats 2000000
/-! Dn7: operators on data. -/
namespace Dn
open PySem L2

section
variable {G : Cts} {H H' : Hp} {av : Addr → Prop}
theorem imms_append : ∀ xs ys : List D, D.imms (xs ++ ys) = (D.imms xs && D.imms ys)
  | [], ys => by rw [List.nil_append]; rfl
  | x :: xs, ys => by
    rw [List.cons_append]
    show (x.imm && D.imms (xs ++ ys)) = ((x.imm && D.imms xs) && D.imms ys)
    rw [imms_append xs ys, Bool.and_assoc]
theorem imms_mem {xs : List D} (h : ∀ x ∈ xs, x.imm = true) : D.imms xs = true := by
  induction xs with
  | nil => rfl
  | cons x xs ih =>
    show (x.imm && D.imms xs) = true
    rw [h x List.mem_cons_self, ih fun y hy => h y (List.mem_cons_of_mem _ hy)]
    rfl
theorem of_imms : ∀ {xs : List D}, D.imms xs = true → ∀ x ∈ xs, x.imm = true
  | [], _, _, z => by cases z
  | y :: ys, h, x, hx => by
    have h' : (y.imm && D.imms ys) = true := h
    rw [Bool.and_eq_true] at h'
    rcases List.mem_cons.mp hx with rfl | hx
    · exact h'.1
    · exact of_imms h'.2 x hx
theorem Reps.append : ∀ {xs ys : List D} {vs ws : List V}, Reps G av H xs vs → Reps G av H ys ws → Reps G av H (xs ++ ys) (vs ++ ws)
  | [], _, _, _, h, k => by
    obtain rfl : _ = [] := h
    exact k
  | x :: xs, _, _, _, ⟨v, r, e, h1, h2⟩, k => by
    subst e
    exact ⟨v, _, rfl, h1, Reps.append h2 k⟩
theorem Freshs.of_imms {ds : List D} {vs : List V} (i : D.imms ds = true) (h : Reps G av H' ds vs) : Freshs G H H' ds vs := ⟨[], Reps.own ds vs i h, List.nodup_nil, fun _ z => by cases z⟩
/-- a new list of plain things -/
theorem Fresh.lst {ds : List D} {vs : List V} {p : Addr} (i : D.imms ds = true) (h : Reps G Nav H ds vs) (hp : H p = none) : Fresh G H (upd H p (.lst vs)) (.lst ds) (.ref p) := Freshs.lst (Same.refl H) (Freshs.of_imms i h) hp
theorem Fresh.tup {ds : List D} {vs : List V} {p : Addr} (i : D.imms ds = true) (h : Reps G Nav H ds vs) (hp : H p = none) : Fresh G H (upd H p (.tup vs)) (.tup ds) (.ref p) := VsOk.tup (fp := fun _ => []) (m := .fr) (Freshs.of_imms i h) hp
theorem Fresh.int {i : Int} : Fresh G H H' (.int i) (.int i) := Fresh.of_imm (av := Nav) rfl rfl
theorem Fresh.bl {i : Bool} : Fresh G H H' (.bl i) (.bl i) := Fresh.of_imm (av := Nav) rfl rfl
theorem Fresh.str {i : Str} : Fresh G H H' (.str i) (.str i) := Fresh.of_imm (av := Nav) rfl rfl
theorem Fresh.non : Fresh G H H' .non .non := Fresh.of_imm (av := Nav) rfl rfl
end

/-- two whole numbers -/
def int2 (g : Int → Int → Option D) : D → D → Option D := fun a b => match a with
  | .int i => match b with
    | .int j => g i j
    | _ => none
  | _ => none
section
variable {G : Cts} {X : Cx}
theorem int2_some {g : Int → Int → Option D} {a b c : D} (h : int2 g a b = some c) : ∃ i j, a = .int i ∧ b = .int j ∧ g i j = some c := by
  unfold int2 at h
  cases a with
  | int i =>
    cases b with
    | int j => exact ⟨i, j, rfl, rfl, h⟩
    | _ => cases h
  | _ => cases h
theorem op2_int {C : Int → Int → Prop} {g : Int → Int → Int} {f : Int → Int → Option D} (hf : ∀ i j c, f i j = some c → C i j ∧ c = .int (g i j)) : Op2 G (rI C fun i j => .int (g i j)) (int2 f) := by
  intro x y d e H hx hy c hc Q k
  obtain ⟨i, j, rfl, rfl, h⟩ := int2_some hc
  obtain ⟨hC, rfl⟩ := hf i j c h
  obtain rfl : x = .int i := hx
  obtain rfl : y = .int j := hy
  exact ⟨i, j, rfl, rfl, hC, k _ H (Same.refl H) Fresh.int⟩
theorem op2_int0 {g : Int → Int → Int} : Op2 G (rI0 fun i j => .int (g i j)) (int2 fun i j => some (.int (g i j))) := by
  intro x y d e H hx hy c hc Q k
  obtain ⟨i, j, rfl, rfl, h⟩ := int2_some hc
  obtain rfl : x = .int i := hx
  obtain rfl : y = .int j := hy
  cases h
  exact ⟨i, j, rfl, rfl, k _ H (Same.refl H) Fresh.int⟩
theorem op2_bl0 {g : Int → Int → Bool} : Op2 G (rI0 fun i j => .bl (g i j)) (int2 fun i j => some (.bl (g i j))) := by
  intro x y d e H hx hy c hc Q k
  obtain ⟨i, j, rfl, rfl, h⟩ := int2_some hc
  obtain rfl : x = .int i := hx
  obtain rfl : y = .int j := hy
  cases h
  exact ⟨i, j, rfl, rfl, k _ H (Same.refl H) Fresh.bl⟩

/-! ### + -/
def oAdd : D → D → Option D := fun a b => match a with
  | .int i => match b with
    | .int j => some (.int (i + j))
    | _ => none
  | .str x => match b with
    | .str y => if x.length + y.length ≤ 1000000 then some (.str (x ++ y)) else none
    | _ => none
  | .lst xs => match b with
    | .lst ys => if D.imms xs = true ∧ D.imms ys = true ∧ xs.length + ys.length ≤ 1000000 then some (.lst (xs ++ ys)) else none
    | _ => none
  | .tup xs => match b with
    | .tup ys => if D.imms xs = true ∧ D.imms ys = true ∧ xs.isEmpty = false ∧ xs.length + ys.length ≤ 1000000 then some (.tup (xs ++ ys)) else none
    | _ => none
  | _ => none
def rAddS : R2 := fun x y H Q => ∃ i j, x = .str i ∧ y = .str j ∧ i.length + j.length ≤ sizeLine ∧ Q (.str (i ++ j)) H
def rAddA (K : PySem.W.Frag) : R2 := fun x y H Q => rI0 (fun i j => .int (i + j)) x y H Q ∨ (fun x y H Q => rAddS x y H Q ∨ (fun x y H Q => rCat x y H Q ∨ rCatT K x y H Q) x y H Q) x y H Q
theorem op_addA : OpR X (binaryOp .Add) (rAddA X.K) := op_add.or (OpR.or (r := rAddS) op_add_str (op_cat.or op_catT))
theorem op2_add : Op2 G (rAddA G.K) oAdd := by
  intro x y d e H hx hy c hc Q k
  unfold oAdd at hc
  cases d with
  | int i =>
    cases e with
    | int j =>
      cases hc
      obtain rfl : x = .int i := hx
      obtain rfl : y = .int j := hy
      exact .inl ⟨i, j, rfl, rfl, k _ H (Same.refl H) Fresh.int⟩
    | _ => cases hc
  | str i =>
    cases e with
    | str j =>
      obtain rfl : x = .str i := hx
      obtain rfl : y = .str j := hy
      by_cases hl : i.length + j.length ≤ 1000000
      · simp only [hl, if_true] at hc
        cases hc
        exact .inr (.inl ⟨i, j, rfl, rfl, line_big hl, k _ H (Same.refl H) Fresh.str⟩)
      · simp only [hl, if_false] at hc
        cases hc
    | _ => cases hc
  | lst xs =>
    cases e with
    | lst ys =>
      obtain ⟨a, vs, rfl, _, ha, ra⟩ := hx
      obtain ⟨b, ws, rfl, _, hb, rb⟩ := hy
      by_cases hl : D.imms xs = true ∧ D.imms ys = true ∧ xs.length + ys.length ≤ 1000000
      · simp only [hl, and_self, if_true] at hc
        cases hc
        obtain ⟨i1, i2, hl⟩ := hl
        refine .inr (.inr (.inl ⟨a, b, vs, ws, rfl, rfl, ha, hb, ?_, fun p hp => ?_⟩))
        · rw [← ra.length, ← rb.length]
          exact line_big hl
        · exact k _ _ (same_new hp) (Fresh.lst (by rw [imms_append, i1, i2]; rfl) (ra.append rb) hp)
      · simp only [hl, if_false] at hc
        cases hc
    | _ => cases hc
  | tup xs =>
    cases e with
    | tup ys =>
      obtain ⟨a, vs, rfl, ha, ra⟩ := hx
      obtain ⟨b, ws, rfl, hb, rb⟩ := hy
      by_cases hl : D.imms xs = true ∧ D.imms ys = true ∧ xs.isEmpty = false ∧ xs.length + ys.length ≤ 1000000
      · dsimp only at hc
        rw [if_pos hl] at hc
        cases hc
        obtain ⟨i1, i2, hn, hl⟩ := hl
        have im : D.imms (xs ++ ys) = true := by rw [imms_append, i1, i2]; rfl
        refine .inr (.inr (.inr ⟨a, b, vs, ws, rfl, rfl, ha, hb, fun z => ?_, ?_, fun z => ?_, fun z p hp => ?_⟩))
        · subst z
          have z2 : xs = [] := List.length_eq_zero_iff.mp ra.length
          subst z2
          cases hn
        · rw [← ra.length, ← rb.length]
          exact line_big hl
        · subst z
          have z2 : ys = [] := List.length_eq_zero_iff.mp rb.length
          subst z2
          rw [List.append_nil] at k im
          exact k _ H (Same.refl H) (Fresh.of_imm im ⟨a, vs, rfl, ha, ra⟩)
        · exact k _ _ (same_new hp) (Fresh.tup im (ra.append rb) hp)
      · dsimp only at hc
        rw [if_neg hl] at hc
        cases hc
    | _ => cases hc
  | _ => cases hc

/-! ### other operators of whole numbers -/
def oSub : D → D → Option D := int2 fun i j => some (.int (i - j))
theorem op2_sub : Op2 G (rI0 fun i j => .int (i - j)) oSub := op2_int0
def isSm (i : Int) : Prop := -(2 ^ 64) < i ∧ i < 2 ^ 64
instance : DecidablePred isSm := fun i => inferInstanceAs (Decidable (-(2 ^ 64) < i ∧ i < 2 ^ 64))
def oMulI : D → D → Option D := int2 fun i j => if isSm i ∨ isSm j then some (.int (i * j)) else none
theorem op2_mulI : Op2 G (rI CMul fun i j => .int (i * j)) oMulI := op2_int fun i j c h => by
  split at h
  · rename_i q
    exact ⟨q, (Option.some.inj h).symm⟩
  · cases h
def oDiv : D → D → Option D := int2 fun i j => if 0 < j ∧ j < 2 ^ 200 then some (.int (i / j)) else none
theorem op2_div : Op2 G (rI CDivW fun i j => .int (i / j)) oDiv := op2_int fun i j c h => by
  split at h
  · rename_i q
    exact ⟨wide_div (b := 200) q.1 (by omega) (by decide) (by decide), (Option.some.inj h).symm⟩
  · cases h
def oMod : D → D → Option D := int2 fun i j => if 0 < j then some (.int (i % j)) else none
theorem op2_mod : Op2 G (rI (fun _ j => 0 < j) fun i j => .int (i % j)) oMod := op2_int fun i j c h => by
  split at h
  · rename_i q
    exact ⟨q, (Option.some.inj h).symm⟩
  · cases h
def oPow : D → D → Option D := int2 fun i j => if 0 ≤ j ∧ j ≤ 1000 ∧ isSm i then some (.int (i ^ j.toNat)) else none
theorem pow_ok {i j : Int} (q : 0 ≤ j ∧ j ≤ 1000 ∧ isSm i) : CPow i j := by
  obtain ⟨h1, h2, h3, h4⟩ := q
  refine ⟨h1, by omega, ?_⟩
  have e : ((2 : Int) ^ 64) = 18446744073709551616 := by decide
  have e2 : (2 ^ 64 : Nat) = 18446744073709551616 := by decide
  rw [e] at h3 h4
  rw [e2]
  omega
theorem op2_pow : Op2 G (rI CPow fun i j => .int (i ^ j.toNat)) oPow := op2_int fun i j c h => by
  split at h
  · rename_i q
    exact ⟨pow_ok q, (Option.some.inj h).symm⟩
  · cases h
def oShl : D → D → Option D := int2 fun i j => if 0 ≤ j ∧ j ≤ 1000 ∧ isSm i then some (.int (i * 2 ^ j.toNat)) else none
theorem op2_shl : Op2 G (rI CPow fun i j => .int (i * 2 ^ j.toNat)) oShl := op2_int fun i j c h => by
  split at h
  · rename_i q
    exact ⟨pow_ok q, (Option.some.inj h).symm⟩
  · cases h
def oShr : D → D → Option D := int2 fun i j => if 0 ≤ j then some (.int (i / 2 ^ j.toNat)) else none
theorem op2_shr : Op2 G (rI (fun _ j => 0 ≤ j) fun i j => .int (i / 2 ^ j.toNat)) oShr := op2_int fun i j c h => by
  split at h
  · rename_i q
    exact ⟨q, (Option.some.inj h).symm⟩
  · cases h
def oAnd : D → D → Option D := int2 fun i j => some (.int (Builtin.bitAnd i j))
def oOr : D → D → Option D := int2 fun i j => some (.int (Builtin.bitOr i j))
def oXor : D → D → Option D := int2 fun i j => some (.int (Builtin.bitXor i j))
theorem op2_and : Op2 G (rI0 fun i j => .int (Builtin.bitAnd i j)) oAnd := op2_int0
theorem op2_or : Op2 G (rI0 fun i j => .int (Builtin.bitOr i j)) oOr := op2_int0
theorem op2_xor : Op2 G (rI0 fun i j => .int (Builtin.bitXor i j)) oXor := op2_int0
def oLt : D → D → Option D := int2 fun i j => some (.bl (decide (i < j)))
def oLe : D → D → Option D := int2 fun i j => some (.bl (decide (i ≤ j)))
def oGt : D → D → Option D := int2 fun i j => some (.bl (decide (j < i)))
def oGe : D → D → Option D := int2 fun i j => some (.bl (decide (j ≤ i)))
theorem op2_lt : Op2 G (rI0 fun i j => .bl (decide (i < j))) oLt := op2_bl0
theorem op2_le : Op2 G (rI0 fun i j => .bl (decide (i ≤ j))) oLe := op2_bl0
theorem op2_gt : Op2 G (rI0 fun i j => .bl (decide (j < i))) oGt := op2_bl0
theorem op2_ge : Op2 G (rI0 fun i j => .bl (decide (j ≤ i))) oGe := op2_bl0
/-- is None -/
def D.isN : D → Bool
  | .non => true
  | _ => false
theorem isN_of {d : D} {v : V} {av : Addr → Prop} {H : Hp} (h : Rep G av H d v) : decide (v = .non) = d.isN := by
  cases d with
  | non =>
    obtain rfl : v = .non := h
    rfl
  | bl b =>
    obtain rfl : v = .bl b := h
    rfl
  | int b =>
    obtain rfl : v = .int b := h
    rfl
  | str b =>
    obtain rfl : v = .str b := h
    rfl
  | tup ds =>
    obtain ⟨a, vs, rfl, _⟩ := h
    rfl
  | lst ds =>
    obtain ⟨a, vs, rfl, _⟩ := h
    rfl
  | dct ks ds =>
    obtain ⟨a, vs, rfl, _⟩ := h
    rfl
  | obj c ks ds =>
    obtain ⟨a, vs, fs, rfl, _⟩ := h
    rfl
  | scr ns =>
    obtain ⟨a, rfl, _⟩ := h
    rfl
  | ty n =>
    obtain rfl : v = .ty n := h
    rfl
  | cls n =>
    obtain rfl : v = .ref (G.cls n) := h
    rfl
def rIs : R2 := fun x y H Q => y = .non ∧ Q (.bl (decide (x = .non))) H
def rIsn : R2 := fun x y H Q => y = .non ∧ Q (.bl (!decide (x = .non))) H
def oIs : D → D → Option D := fun a b => if b.isN then some (.bl a.isN) else none
def oIsn : D → D → Option D := fun a b => if b.isN then some (.bl (!a.isN)) else none
theorem isN_non {d : D} (h : d.isN = true) : d = .non := by cases d <;> first | rfl | cases h
theorem op2_is : Op2 G rIs oIs := by
  intro x y d e H hx hy c hc Q k
  unfold oIs at hc
  by_cases z : e.isN = true
  · rw [if_pos z] at hc
    cases hc
    have z' := isN_non z
    subst z'
    refine ⟨hy, ?_⟩
    rw [isN_of hx]
    exact k _ H (Same.refl H) Fresh.bl
  · rw [if_neg z] at hc
    cases hc
theorem op2_isn : Op2 G rIsn oIsn := by
  intro x y d e H hx hy c hc Q k
  unfold oIsn at hc
  by_cases z : e.isN = true
  · rw [if_pos z] at hc
    cases hc
    have z' := isN_non z
    subst z'
    refine ⟨hy, ?_⟩
    rw [isN_of hx]
    exact k _ H (Same.refl H) Fresh.bl
  · rw [if_neg z] at hc
    cases hc
theorem op_is' : OpR X (compareOp .Is) rIs := op_isN
theorem op_isn' : OpR X (compareOp .IsNot) rIsn := op_notN
end

/-! ### == -/
mutual
/-- as Python's ==; nothing of dicts and instances -/
def D.eqv : D → D → Bool
  | .non, .non => true
  | .bl a, .bl b => a == b
  | .bl a, .int j => (if a then 1 else 0) == j
  | .int i, .bl b => i == (if b then 1 else 0)
  | .int i, .int j => i == j
  | .str x, .str y => x == y
  | .lst xs, .lst ys => D.eqvs xs ys
  | .tup xs, .tup ys => D.eqvs xs ys
  | _, _ => false
def D.eqvs : List D → List D → Bool
  | [], [] => true
  | x :: xs, y :: ys => D.eqv x y && D.eqvs xs ys
  | _, _ => false
end
mutual
/-- numbers, texts, truths, None, lists and tuples of such; not too deep -/
def D.pl : Nat → D → Bool
  | _, .non => true
  | _, .bl _ => true
  | _, .int _ => true
  | _, .str _ => true
  | n, .lst xs => match n with
    | 0 => false
    | n + 1 => D.pls n xs
  | n, .tup xs => match n with
    | 0 => false
    | n + 1 => D.pls n xs
  | _, _ => false
def D.pls : Nat → List D → Bool
  | _, [] => true
  | n, x :: xs => D.pl n x && D.pls n xs
end
mutual
def D.py : D → PyData
  | .bl b => .bool b
  | .int i => .int i
  | .str s => .str s
  | .lst xs => .list (D.pys xs)
  | .tup xs => .tuple (D.pys xs)
  | _ => .none
def D.pys : List D → List PyData
  | [] => []
  | x :: xs => D.py x :: D.pys xs
end
mutual
theorem D.pl_plain : ∀ (n : Nat) (d : D), d.pl n = true → d.py.plain = true ∧ d.py.depth ≤ n
  | _, .non, _ => ⟨rfl, Nat.zero_le _⟩
  | _, .bl _, _ => ⟨rfl, Nat.zero_le _⟩
  | _, .int _, _ => ⟨rfl, Nat.zero_le _⟩
  | _, .str _, _ => ⟨rfl, Nat.zero_le _⟩
  | 0, .lst xs, h => by cases h
  | n + 1, .lst xs, h => by
    obtain ⟨a, b⟩ := D.pls_plain n xs h
    exact ⟨a, Nat.succ_le_succ b⟩
  | 0, .tup xs, h => by cases h
  | n + 1, .tup xs, h => by
    obtain ⟨a, b⟩ := D.pls_plain n xs h
    exact ⟨a, Nat.succ_le_succ b⟩
  | _, .dct _ _, h => by cases h
  | _, .obj _ _ _, h => by cases h
  | _, .scr _, h => by cases h
  | _, .ty _, h => by cases h
  | _, .cls _, h => by cases h
theorem D.pls_plain : ∀ (n : Nat) (ds : List D), D.pls n ds = true → PyData.plainAll (D.pys ds) = true ∧ PyData.depthAll (D.pys ds) ≤ n
  | _, [], _ => ⟨rfl, Nat.zero_le _⟩
  | n, d :: ds, h => by
    have h' : (d.pl n && D.pls n ds) = true := h
    rw [Bool.and_eq_true] at h'
    obtain ⟨a, b⟩ := D.pl_plain n d h'.1
    obtain ⟨a', b'⟩ := D.pls_plain n ds h'.2
    refine ⟨?_, Nat.max_le.mpr ⟨b, b'⟩⟩
    show (d.py.plain && PyData.plainAll (D.pys ds)) = true
    rw [a, a']
    rfl
end
mutual
theorem D.eqv_py : ∀ (n m : Nat) (d e : D), d.pl n = true → e.pl m = true → PyData.eqv d.py e.py = d.eqv e
  | _, _, .non, e, _, h => by cases e <;> first | rfl | cases h
  | _, _, .bl _, e, _, h => by cases e <;> first | rfl | cases h
  | _, _, .int _, e, _, h => by cases e <;> first | rfl | cases h
  | _, _, .str _, e, _, h => by cases e <;> first | rfl | cases h
  | 0, _, .lst _, _, h, _ => by cases h
  | 0, _, .tup _, _, h, _ => by cases h
  | n + 1, m, .lst xs, e, h, k => by
    cases e with
    | lst ys =>
      cases m with
      | zero => cases k
      | succ m => exact D.eqvs_py n m xs ys h k
    | _ => first | rfl | cases k
  | n + 1, m, .tup xs, e, h, k => by
    cases e with
    | tup ys =>
      cases m with
      | zero => cases k
      | succ m => exact D.eqvs_py n m xs ys h k
    | _ => first | rfl | cases k
  | _, _, .dct _ _, _, h, _ => by cases h
  | _, _, .obj _ _ _, _, h, _ => by cases h
  | _, _, .scr _, _, h, _ => by cases h
  | _, _, .ty _, _, h, _ => by cases h
  | _, _, .cls _, _, h, _ => by cases h
theorem D.eqvs_py : ∀ (n m : Nat) (d e : List D), D.pls n d = true → D.pls m e = true → PyData.eqvAll (D.pys d) (D.pys e) = D.eqvs d e
  | _, _, [], [], _, _ => rfl
  | _, _, [], _ :: _, _, _ => rfl
  | _, _, _ :: _, [], _, _ => rfl
  | n, m, x :: xs, y :: ys, h, k => by
    have h' : (x.pl n && D.pls n xs) = true := h
    have k' : (y.pl m && D.pls m ys) = true := k
    rw [Bool.and_eq_true] at h' k'
    show (PyData.eqv x.py y.py && PyData.eqvAll (D.pys xs) (D.pys ys)) = (D.eqv x y && D.eqvs xs ys)
    rw [D.eqv_py n m x y h'.1 k'.1, D.eqvs_py n m xs ys h'.2 k'.2]
end
section
variable {G : Cts} {X : Cx} {H : Hp}
mutual
theorem D.dp : ∀ (n : Nat) (d : D) (v : V), d.pl n = true → Rep G Nav H d v → Dp G.K H v d.py
  | _, .non, v, _, h => by
    obtain rfl : v = .non := h
    exact .non
  | _, .bl b, v, _, h => by
    obtain rfl : v = .bl b := h
    exact .bl b
  | _, .int b, v, _, h => by
    obtain rfl : v = .int b := h
    exact .int b
  | _, .str b, v, _, h => by
    obtain rfl : v = .str b := h
    exact .str b
  | 0, .lst xs, _, h, _ => by cases h
  | 0, .tup xs, _, h, _ => by cases h
  | n + 1, .lst xs, v, h, r => by
    obtain ⟨a, vs, rfl, _, s, r⟩ := r
    exact .lst (SqL.of s) (D.dps n xs vs h r)
  | n + 1, .tup xs, v, h, r => by
    obtain ⟨a, vs, rfl, s, r⟩ := r
    exact .tup s (D.dps n xs vs h r)
  | _, .dct _ _, _, h, _ => by cases h
  | _, .obj _ _ _, _, h, _ => by cases h
  | _, .scr _, _, h, _ => by cases h
  | _, .ty _, _, h, _ => by cases h
  | _, .cls _, _, h, _ => by cases h
theorem D.dps : ∀ (n : Nat) (ds : List D) (vs : List V), D.pls n ds = true → Reps G Nav H ds vs → DpAll G.K H vs (D.pys ds)
  | _, [], vs, _, h => by
    obtain rfl : vs = [] := h
    exact .nil
  | n, d :: ds, vs, h, r => by
    have h' : (d.pl n && D.pls n ds) = true := h
    rw [Bool.and_eq_true] at h'
    obtain ⟨v, w, rfl, r1, r2⟩ := r
    exact .cons (D.dp n d v h'.1 r1) (D.dps n ds w h'.2 r2)
end
def rEqP (K : PySem.W.Frag) : R2 := fun x y H Q => ∃ d e, Dp K H x d ∧ Dp K H y e ∧ d.plain = true ∧ e.plain = true ∧ d.depth ≤ 60 ∧ Q (.bl (PyData.eqv d e)) H
def rNeP (K : PySem.W.Frag) : R2 := fun x y H Q => ∃ d e, Dp K H x d ∧ Dp K H y e ∧ d.plain = true ∧ e.plain = true ∧ d.depth ≤ 60 ∧ Q (.bl (!PyData.eqv d e)) H
theorem op_eqP (hu : X.A.units + 64 < cLine) : OpR X (compareOp .Eq) (rEqP X.K) := by
  intro pins s σ H x y v u Q I rx ry h
  obtain ⟨d, e, hd, he, p1, p2, hn, q⟩ := h
  obtain ⟨as, r1⟩ := Dp.reads I d x v hd rx
  obtain ⟨bs, r2⟩ := Dp.reads I e y u he ry
  refine SeqAt.eq_plain r1 r2 p1 p2 ?_ ⟨.bl _, H, I, rfl, q⟩
  have := Nat.min_le_left d.depth e.depth
  omega
theorem op_neP (hu : X.A.units + 64 < cLine) : OpR X (compareOp .NotEq) (rNeP X.K) := by
  intro pins s σ H x y v u Q I rx ry h
  obtain ⟨d, e, hd, he, p1, p2, hn, q⟩ := h
  obtain ⟨as, r1⟩ := Dp.reads I d x v hd rx
  obtain ⟨bs, r2⟩ := Dp.reads I e y u he ry
  refine SeqAt.ne_plain r1 r2 p1 p2 ?_ ⟨.bl _, H, I, rfl, q⟩
  have := Nat.min_le_left d.depth e.depth
  omega
def oEq : D → D → Option D := fun a b => if a.pl 9 = true ∧ b.pl 9 = true then some (.bl (a.eqv b)) else none
def oNe : D → D → Option D := fun a b => if a.pl 9 = true ∧ b.pl 9 = true then some (.bl (!a.eqv b)) else none
theorem op2_eq : Op2 G (rEqP G.K) oEq := by
  intro x y d e H hx hy c hc Q k
  unfold oEq at hc
  by_cases z : d.pl 9 = true ∧ e.pl 9 = true
  · rw [if_pos z] at hc
    cases hc
    obtain ⟨p1, n1⟩ := D.pl_plain 9 d z.1
    obtain ⟨p2, n2⟩ := D.pl_plain 9 e z.2
    refine ⟨d.py, e.py, D.dp 9 d x z.1 hx, D.dp 9 e y z.2 hy, p1, p2, by omega, ?_⟩
    rw [D.eqv_py 9 9 d e z.1 z.2]
    exact k _ H (Same.refl H) Fresh.bl
  · rw [if_neg z] at hc
    cases hc
theorem op2_ne : Op2 G (rNeP G.K) oNe := by
  intro x y d e H hx hy c hc Q k
  unfold oNe at hc
  by_cases z : d.pl 9 = true ∧ e.pl 9 = true
  · rw [if_pos z] at hc
    cases hc
    obtain ⟨p1, n1⟩ := D.pl_plain 9 d z.1
    obtain ⟨p2, n2⟩ := D.pl_plain 9 e z.2
    refine ⟨d.py, e.py, D.dp 9 d x z.1 hx, D.dp 9 e y z.2 hy, p1, p2, by omega, ?_⟩
    rw [D.eqv_py 9 9 d e z.1 z.2]
    exact k _ H (Same.refl H) Fresh.bl
  · rw [if_neg z] at hc
    cases hc
end
end Dn
set_option Elab.async false
set_option linter.all false
set_option maxRecDepth 100000
set_option maxHeartbeats 2000000
/-! Dn8: calls of built-ins, subscripts, membership, what is walked. -/
namespace Dn
open PySem L2

def OpN (G : Cts) (r : List V → Hp → VK → Prop) (f : List D → Option D) : Prop :=
  ∀ vs ds H, Reps G Nav H ds vs → ∀ c, f ds = some c → ∀ Q : VK, (∀ v H', Same H H' → Fresh G H H' c v → Q v H') → r vs H Q
def eFn (f : List D → Option D) (g : EA) : E := fun ρ => (g ρ).bind fun a => (R.opt (f a.1)).bind fun c => .ok (c, .fr)
def Md.lo : Md → Md
  | .fr => .sh
  | m => m
section
variable {X : Cx} {G : Cts} {W : WX}
theorem PE.or {e : Expr} {t u : TE} (h : PE X e t) (k : PE X e u) : PE X e (fun σ H Q => t σ H Q ∨ u σ H Q) := ⟨fun pins s σ H Q I hw => hw.elim (h.run pins s σ H Q I) (k.run pins s σ H Q I)⟩
theorem px_fn {e : Expr} {r : List V → Hp → VK → Prop} {f : List D → Option D} {g : EA} (h : PE X e (tCB r (tA G W g))) (ho : OpN G r f) : PE X e (tE G W (eFn f g)) := by
  refine PE.of h fun σ H Q ⟨fp, fv, ρ, I, q⟩ => ?_
  refine tA.of_bind (y := yE G W fp σ H Q) I q (fun e h => h) (fun h => h) fun ds m q vs H1 e1 v1 => ?_
  cases z : f ds with
  | none =>
    simp only [z, R.opt, R.bind] at q
    exact q.elim
  | some c =>
    simp only [z, R.opt, R.bind] at q
    exact ho vs ds H1 v1.tr c z Q fun v H' e' f' => q v H' (e1.trans e') (f'.back e1)
theorem VOk.lo {fp : Nat → List Addr} {fv : Nat → Option V} {σ : L2.St} {ρ : Rho} {H H' : Hp} {m : Md} {d : D} {v : V} (I : LSR G fp fv σ H ρ) (h : VOk G fp H H' m d v) : VOk G fp H H' m.lo d v := by
  cases m with
  | fr => exact VOk.sh I (fun z => by cases z) h
  | sh => exact h
  | tr => exact h
/-- what is read only, or for now, is so in its parts -/
def avM (fp : Nat → List Addr) : Md → Addr → Prop
  | .tr => Nav
  | _ => Own fp
theorem VOk.av {fp : Nat → List Addr} {H H' : Hp} {m : Md} {d : D} {v : V} (h : VOk G fp H H' m.lo d v) : Rep G (avM fp m) H' d v := by
  cases m <;> exact h
theorem VOk.of_av {fp : Nat → List Addr} {H H' : Hp} {m : Md} {d : D} {v : V} (h : Rep G (avM fp m) H' d v) : VOk G fp H H' m.lo d v := by
  cases m <;> exact h
end

/-! ### len, int, isinstance -/
def oLen : List D → Option D := fun ds => match ds with
  | [.lst xs] => some (.int xs.length)
  | [.tup xs] => some (.int xs.length)
  | [.scr xs] => some (.int xs.length)
  | [.str x] => if x.length ≤ 1000000 then some (.int x.length) else none
  | [.dct ks _] => some (.int ks.length)
  | _ => none
def rLenA (K : PySem.W.Frag) : List V → Hp → VK → Prop := fun xs H Q => (∃ x n, xs = [x] ∧ LenV K x H n ∧ Q (.int n) H) ∨ (∃ a kvs, xs = [V.ref a] ∧ Rd H a (.dK kvs) ∧ Q (.int kvs.length) H)
section
variable {X : Cx} {G : Cts} {W : WX} {H : Hp} {av : Addr → Prop}
theorem call_lenR : CallR X (.builtin "len") (fun xs H Q => ∃ a kvs, xs = [V.ref a] ∧ Rd H a (.dK kvs) ∧ Q (.int kvs.length) H) := by
  intro pins s σ H xs us Q I r ⟨a, kvs, e, ha, q⟩
  subst e
  obtain ⟨u, rfl, ru⟩ := vals1 r
  cases ru
  exact d_len I ha fun t s' I' => ⟨.int kvs.length, H, I', ⟨t, rfl⟩, q⟩
theorem call_lenA : CallR X (.builtin "len") (rLenA X.K) := CallR.or call_len call_lenR
theorem one_of {d : D} {vs : List V} (h : Reps G av H [d] vs) : ∃ v, vs = [v] ∧ Rep G av H d v := by
  obtain ⟨v, r, rfl, h1, h2⟩ := h
  obtain rfl : r = [] := h2
  exact ⟨v, rfl, h1⟩
theorem two_of {d e : D} {vs : List V} (h : Reps G av H [d, e] vs) : ∃ v u, vs = [v, u] ∧ Rep G av H d v ∧ Rep G av H e u := by
  obtain ⟨v, r, rfl, h1, h2⟩ := h
  obtain ⟨u, rfl, h3⟩ := one_of h2
  exact ⟨v, u, rfl, h1, h3⟩
theorem opn_len : OpN G (rLenA G.K) oLen := by
  intro vs ds H hr c hc Q k
  unfold oLen at hc
  split at hc
  · cases hc
    obtain ⟨v, rfl, a, ws, rfl, _, s, r⟩ := one_of hr
    rw [r.length] at k
    exact .inl ⟨_, _, rfl, .inl ⟨ws, SqL.of s, rfl⟩, k _ H (Same.refl H) Fresh.int⟩
  · cases hc
    obtain ⟨v, rfl, a, ws, rfl, s, r⟩ := one_of hr
    rw [r.length] at k
    exact .inl ⟨_, _, rfl, .inr ⟨ws, s, rfl⟩, k _ H (Same.refl H) Fresh.int⟩
  · cases hc
    obtain ⟨v, rfl, a, rfl, s⟩ := one_of hr
    exact .inl ⟨_, _, rfl, .inl ⟨_, s.seq, (List.length_map ..).symm⟩, k _ H (Same.refl H) Fresh.int⟩
  · rename_i x
    obtain ⟨v, rfl, h⟩ := one_of hr
    obtain rfl : v = .str x := h
    split at hc
    · rename_i hl
      cases hc
      exact .inl ⟨_, _, rfl, ⟨line_big hl, rfl⟩, k _ H (Same.refl H) Fresh.int⟩
    · cases hc
  · rename_i ks es
    obtain ⟨v, rfl, a, kvs, rfl, _, s, e, r⟩ := one_of hr
    cases hc
    refine .inr ⟨a, kvs, rfl, s, ?_⟩
    rw [← e, List.length_map] at k
    exact k _ H (Same.refl H) Fresh.int
  · cases hc
def oInt : List D → Option D := fun ds => match ds with
  | [.int i] => some (.int i)
  | [.bl b] => some (.int (if b then 1 else 0))
  | _ => none
theorem opn_int : OpN G (fun xs H Q => (∃ i, xs = [.int i] ∧ Q (.int i) H) ∨ ∃ k, xs = [.bl k] ∧ Q (.int (if k then 1 else 0)) H) oInt := by
  intro vs ds H hr c hc Q k
  unfold oInt at hc
  split at hc
  · cases hc
    obtain ⟨v, rfl, h⟩ := one_of hr
    obtain rfl : v = _ := h
    exact .inl ⟨_, rfl, k _ H (Same.refl H) Fresh.int⟩
  · cases hc
    obtain ⟨v, rfl, h⟩ := one_of hr
    obtain rfl : v = _ := h
    exact .inr ⟨_, rfl, k _ H (Same.refl H) Fresh.int⟩
  · cases hc

/-! ### isinstance -/
def D.kind : D → Option String
  | .non => some "NoneType"
  | .bl _ => some "bool"
  | .int _ => some "int"
  | .str _ => some "str"
  | .tup _ => some "tuple"
  | .lst _ => some "list"
  | .dct _ _ => some "dict"
  | .scr _ => some "list"
  | _ => none
def isiT (a b : String) : Option Bool :=
  if b = "int" ∨ b = "bool" ∨ b = "str" ∨ b = "tuple" ∨ b = "list" ∨ b = "dict" then
    if a = "NoneType" ∨ a = "bool" ∨ a = "int" ∨ a = "str" ∨ a = "tuple" ∨ a = "list" ∨ a = "dict" then some (a == b || (a == "bool" && b == "int")) else none
  else none
theorem isiT_kit {a b : String} {r : Bool} (h : isiT a b = some r) : kitB a b = some r := by
  unfold isiT at h
  split at h
  · rename_i hb
    split at h
    · rename_i ha
      rw [← h]
      rcases hb with rfl | rfl | rfl | rfl | rfl | rfl <;> rcases ha with rfl | rfl | rfl | rfl | rfl | rfl | rfl <;> decide +kernel
    · cases h
  · cases h
def oIsi : List D → Option D := fun ds => match ds with
  | [d, .ty n] => (d.kind.bind fun a => isiT a n).map .bl
  | _ => none
theorem D.tyX {d : D} {v : V} {a : String} (h : Rep G av H d v) (e : d.kind = some a) : TyX G.K H v (.type a) := by
  cases d with
  | non =>
    cases e
    obtain rfl : v = .non := h
    exact .base .non
  | bl b =>
    cases e
    obtain rfl : v = .bl b := h
    exact .base (.bl b)
  | int b =>
    cases e
    obtain rfl : v = .int b := h
    exact .base (.int b)
  | str b =>
    cases e
    obtain rfl : v = .str b := h
    exact .base (.str b)
  | tup ds =>
    cases e
    obtain ⟨a, vs, rfl, s, _⟩ := h
    rcases s with (s | ⟨o, s⟩) | ⟨o, its, n, s, c, _⟩
    · exact .base (.tup s)
    · exact .fTuple s
    · exact .kTuple s c
  | lst ds =>
    cases e
    obtain ⟨a, vs, rfl, _, s, _⟩ := h
    exact .base (.lst s)
  | dct ks ds =>
    cases e
    obtain ⟨a, vs, rfl, _, s, _⟩ := h
    rcases s with s | ⟨o, s⟩
    · exact .base (.dK s)
    · exact .fDict s
  | scr ns =>
    cases e
    obtain ⟨a, rfl, s⟩ := h
    rcases s with ⟨o, s⟩ | ⟨o, its, n, s, c, _⟩
    · exact .base (.frz s)
    · exact .kList s c
  | obj _ _ _ => cases e
  | ty _ => cases e
  | cls _ => cases e
theorem opn_isi : OpN G (rIsi G.K) oIsi := by
  intro vs ds H hr c hc Q k
  unfold oIsi at hc
  split at hc
  · rename_i d n
    obtain ⟨v, u, rfl, h1, h2⟩ := two_of hr
    obtain rfl : u = .ty n := h2
    cases z : d.kind with
    | none =>
      rw [z] at hc
      cases hc
    | some a =>
      rw [z] at hc
      cases z2 : isiT a n with
      | none =>
        simp only [Option.bind_some, z2] at hc
        cases hc
      | some b =>
        simp only [Option.bind_some, z2, Option.map_some] at hc
        cases hc
        exact ⟨v, .ty n, .type a, .type n, b, rfl, .ty n, D.tyX h1 z, kit_ty (isiT_kit z2), k _ H (Same.refl H) Fresh.bl⟩
  · cases hc
theorem px_bty {x : Str} {n : String} {pos : Pos} (hg : Gl X x) (hm : X.mg x = none) (hv : bootBuiltins x = some (.type n)) (hn : x ≠ "__name__" := by decide) (hd : (x == ("__debug__" : Str)) = false := by decide) : PE X (.Name x pos) (tE G W (eC (.ty n))) :=
  px_c (pe_bltn hg hm hv (v := .ty n) rfl hn hd) rfl fun _ => rfl

/-! ### subscripts -/
theorem atI_reps {ds : List D} {vs : List V} {i : Int} {d : D} (h : Reps G av H ds vs) (e : atI ds i = some d) : ∃ v, atI vs i = some v ∧ Rep G av H d v := by
  unfold atI at e ⊢
  rw [h.length] at e
  cases z : ixN vs.length i with
  | none =>
    rw [z] at e
    cases e
  | some j =>
    rw [z] at e
    exact h.get e
theorem atI_map {α β : Type} {f : α → β} {xs : List α} {i : Int} : atI (xs.map f) i = (atI xs i).map f := by
  unfold atI
  rw [List.length_map]
  cases ixN xs.length i with
  | none => rfl
  | some j => exact List.getElem?_map
def lkD : List Key → List D → Key → Option D
  | k :: ks, d :: ds, j => if k = j then some d else lkD ks ds j
  | _, _, _ => none
theorem lkD_reps : ∀ {kvs : List (Key × V)} {ks : List Key} {ds : List D} {j : Key}, kvs.map (·.1) = ks → Reps G av H ds (kvs.map (·.2)) →
    (∀ d, lkD ks ds j = some d → ∃ v, valV kvs j = some v ∧ Rep G av H d v) ∧ (lkD ks ds j = none → valV kvs j = none)
  | [], ks, ds, j, e, r => by
    subst e
    exact ⟨fun d (z : none = some d) => (nomatch z), fun _ => rfl⟩
  | (k, v) :: kvs, ks, ds, j, e, r => by
    subst e
    cases ds with
    | nil =>
      have z := r.length
      cases z
    | cons d ds =>
      obtain ⟨v', r', e', h1, h2⟩ := r
      cases e'
      obtain ⟨i1, i2⟩ := lkD_reps (kvs := kvs) (ds := ds) (j := j) rfl h2
      by_cases z : k = j
      · subst z
        refine ⟨fun d' q => ?_, fun q => ?_⟩
        · have q' : (if k = k then some d else lkD (kvs.map (·.1)) ds k) = some d' := q
          rw [if_pos rfl] at q'
          cases q'
          exact ⟨v, valV_pos rfl, h1⟩
        · have q' : (if k = k then some d else lkD (kvs.map (·.1)) ds k) = none := q
          rw [if_pos rfl] at q'
          cases q'
      · refine ⟨fun d' q => ?_, fun q => ?_⟩
        · have q' : (if k = j then some d else lkD (kvs.map (·.1)) ds j) = some d' := q
          rw [if_neg z] at q'
          obtain ⟨u, a, b⟩ := i1 d' q'
          exact ⟨u, by rw [valV_neg z]; exact a, b⟩
        · have q' : (if k = j then some d else lkD (kvs.map (·.1)) ds j) = none := q
          rw [if_neg z] at q'
          rw [valV_neg z]
          exact i2 q'
def D.key : D → Option Key
  | .int i => some (.inl i)
  | .str s => some (.inr s)
  | _ => none
theorem D.key_of {d : D} {v : V} {k : Key} (h : Rep G av H d v) (e : d.key = some k) : v = kV k := by
  cases d with
  | int i =>
    cases e
    exact h
  | str i =>
    cases e
    exact h
  | _ => cases e
def ixD : D → D → Option D := fun a b => match a with
  | .lst xs => match b with
    | .int i => atI xs i
    | _ => none
  | .tup xs => match b with
    | .int i => atI xs i
    | _ => none
  | .scr xs => match b with
    | .int i => (atI xs i).map .int
    | _ => none
  | .str x => match b with
    | .int i => if x.length ≤ 1000000 then (atI x.cps.toList i).map fun c => .str ⟨#[c]⟩ else none
    | _ => none
  | .dct ks ds => b.key.bind fun k => lkD ks ds k
  | _ => none
def eIx (f g : E) : E := fun ρ => (f ρ).bind fun a => (g ρ).bind fun b => (R.opt (ixD a.1 b.1)).bind fun c => .ok (c, a.2.lo)
def D.isD : D → Bool
  | .dct _ _ => true
  | _ => false
/-- the value read, by whatever avoids -/
theorem ixD_rep {a b c : D} {x y : V} {av : Addr → Prop} (hx : Rep G av H a x) (hy : Rep G Nav H b y) (e : ixD a b = some c) : ∃ v, Rep G av H c v ∧ ∀ Q : VK, Q v H → (a.isD = false → rIx G.K x y H Q) ∧ (a.isD = true → ∃ p v, x = .ref p ∧ DGet H p y (some v) ∧ Q v H) := by
  unfold ixD at e
  cases a with
  | lst xs =>
    cases b with
    | int i =>
      obtain rfl : y = .int i := hy
      obtain ⟨p, vs, rfl, _, s, r⟩ := hx
      obtain ⟨v, h1, h2⟩ := atI_reps r e
      exact ⟨v, h2, fun Q q => ⟨fun _ => .inl ⟨p, vs, i, v, rfl, rfl, SqL.of s, h1, q⟩, fun z => by cases z⟩⟩
    | _ => cases e
  | tup xs =>
    cases b with
    | int i =>
      obtain rfl : y = .int i := hy
      obtain ⟨p, vs, rfl, s, r⟩ := hx
      obtain ⟨v, h1, h2⟩ := atI_reps r e
      exact ⟨v, h2, fun Q q => ⟨fun _ => .inr (.inl ⟨p, vs, i, v, rfl, rfl, s, h1, q⟩), fun z => by cases z⟩⟩
    | _ => cases e
  | scr xs =>
    cases b with
    | int i =>
      obtain rfl : y = .int i := hy
      obtain ⟨p, rfl, s⟩ := hx
      cases z : atI xs i with
      | none =>
        simp only [z] at e
        cases e
      | some n =>
        simp only [z, Option.map_some] at e
        cases e
        exact ⟨.int n, rfl, fun Q q => ⟨fun _ => .inl ⟨p, xs.map V.int, i, .int n, rfl, rfl, s.seq, by rw [atI_map, z]; rfl, q⟩, fun z => by cases z⟩⟩
    | _ => cases e
  | str x =>
    cases b with
    | int i =>
      obtain rfl : y = .int i := hy
      obtain rfl : _ = V.str x := hx
      by_cases hl : x.length ≤ 1000000
      · simp only [hl, if_true] at e
        cases z : atI x.cps.toList i with
        | none =>
          rw [z] at e
          cases e
        | some n =>
          rw [z] at e
          cases e
          exact ⟨.str ⟨#[n]⟩, rfl, fun Q q => ⟨fun _ => .inr (.inr ⟨x, i, n, rfl, rfl, line_big hl, z, q⟩), fun z => by cases z⟩⟩
      · simp only [hl, if_false] at e
        cases e
    | _ => cases e
  | dct ks ds =>
    obtain ⟨p, kvs, rfl, _, s, e1, r⟩ := hx
    cases z : b.key with
    | none =>
      simp only [z] at e
      cases e
    | some k =>
      simp only [z, Option.bind_some] at e
      obtain ⟨v, h1, h2⟩ := (lkD_reps (j := k) e1 r).1 c e
      exact ⟨v, h2, fun Q q => ⟨fun z => (by cases z), fun _ => ⟨p, v, rfl, .inl ⟨kvs, k, s, D.key_of hy z, h1.symm⟩, q⟩⟩⟩
  | _ => cases e
theorem px_ix {a b : Expr} {pos : Pos} {f g : E} (hu : X.A.units + 1 < cLine) (ha : PE X a (tE G W f)) (hb : PE X b (tE G W g)) (hK : X.K = G.K := by rfl) (hs : PlainIx b := by exact fun _ _ => rfl) (hn : NoSl b := by exact fun _ _ => rfl) : PE X (.Subscript a b pos) (tE G W (eIx f g)) := by
  refine PE.of (PE.or (pe_ix ix_seq ha hb hs) (pe_dget hu ha hb hn)) fun σ H Q ⟨fp, fv, ρ, I, q⟩ => ?_
  have two : ∀ (k : V → V → Hp → Prop), (∀ a m b m2 x y H2, f ρ = .ok (a, m) → Rep G Nav H2 a x → Rep G Nav H2 b y → ∀ c, ixD a b = some c → ∀ v, Rep G Nav H2 c v → (∀ Q : VK, Q v H2 → (a.isD = false → rIx G.K x y H2 Q) ∧ (a.isD = true → ∃ p v, x = .ref p ∧ DGet H2 p y (some v) ∧ Q v H2)) → Q v H2 → k x y H2) →
      tE G W f σ H fun x H1 => tE G W g σ H1 fun y H2 => k x y H2 := fun k hk => by
    refine tE.go I (fun e h => ?_) (fun h => ?_) fun a m h x H1 e1 v1 => ?_
    · simp only [eIx, h] at q
      exact q
    · simp only [eIx, h] at q
      exact q
    · simp only [eIx, h] at q
      have q : yE G W fp σ H Q ((g ρ).bind _) := q
      refine tE.of_bind (y := yE G W fp σ H Q) (I.same e1) q (fun e h H' e' => h H' (e1.trans e')) (fun h => h) fun b m2 q y H2 e2 v2 => ?_
      cases z : ixD a b with
      | none =>
        simp only [z, R.opt, R.bind] at q
        exact q.elim
      | some c =>
        simp only [z, R.opt, R.bind] at q
        have v1' := ((v1.lo I).same e2).av
        obtain ⟨v, rv, hq⟩ := ixD_rep v1' v2.tr z
        exact hk a m b m2 x y H2 h v1'.tr v2.tr c z v rv.tr hq (q v H2 (e1.trans e2) (VOk.of_av rv))
  have dec : (∃ a m, f ρ = .ok (a, m) ∧ a.isD = true) ∨ ∀ a m, f ρ = .ok (a, m) → a.isD = false := by
    cases h : f ρ with
    | ok r =>
      by_cases z : r.1.isD = true
      · exact .inl ⟨r.1, r.2, rfl, z⟩
      · exact .inr fun a m e => by
          cases e
          exact Bool.eq_false_iff.mpr z
    | ex e => exact .inr fun a m e => by cases e
    | bad => exact .inr fun a m e => by cases e
  rcases dec with ⟨a, m, h, z⟩ | dec
  · refine .inr (two _ fun a' m' b m2 x y H2 h' r1 r2 c e v rv hq qv => ?_)
    rw [h] at h'
    cases h'
    exact (hq Q qv).2 z
  · refine .inl (two _ fun a' m' b m2 x y H2 h' r1 r2 c e v rv hq qv => ?_)
    have z := (hq Q qv).1 (dec a' m' h')
    rw [hK]
    exact z
end
end Dn
set_option Elab.async false
set_option linter.all false
set_option maxRecDepth 100000
set_option maxHeartbeats 2000000
/-! Dn9: what is walked; constants of a module. -/
namespace Dn
open PySem L2
def dataL : D → Option (List D)
  | .lst xs => some xs
  | .tup xs => some xs
  | .scr ns => some (ns.map .int)
  | .str s => some (s.cps.toList.map fun c => .str ⟨#[c]⟩)
  | _ => none
def itSeq (f : E) : EI := fun ρ => (f ρ).bind fun a => match a.2 with
  | .tr => if a.1.imm then R.opt (dataL a.1) else .bad
  | _ => R.opt (dataL a.1)
def rngD (lo : Int) (n : Nat) : List D := (List.range n).map fun i => .int (lo + (i : Nat))
def rng1 : List D → Option (List D) := fun ds => match ds with
  | [.int j] => if -1000000000 ≤ j ∧ j ≤ 1000000000 then some (rngD 0 j.toNat) else none
  | _ => none
def rng2 : List D → Option (List D) := fun ds => match ds with
  | [.int i, .int j] => if -1000000000 ≤ i ∧ i ≤ 1000000000 ∧ -1000000000 ≤ j ∧ j ≤ 1000000000 then some (rngD i (j - i).toNat) else none
  | _ => none
def itBy (f : List D → Option (List D)) (g : EA) : EI := fun ρ => (g ρ).bind fun a => R.opt (f a.1)
theorem rng1_some {ds xs : List D} (h : rng1 ds = some xs) : ∃ j, ds = [.int j] ∧ -1000000000 ≤ j ∧ j ≤ 1000000000 ∧ xs = rngD 0 j.toNat := by
  unfold rng1 at h
  split at h
  · rename_i j
    split at h
    · rename_i hb
      cases h
      exact ⟨j, rfl, hb.1, hb.2, rfl⟩
    · cases h
  · cases h
theorem rng2_some {ds xs : List D} (h : rng2 ds = some xs) : ∃ i j, ds = [.int i, .int j] ∧ (-1000000000 ≤ i ∧ i ≤ 1000000000 ∧ -1000000000 ≤ j ∧ j ≤ 1000000000) ∧ xs = rngD i (j - i).toNat := by
  unfold rng2 at h
  split at h
  · rename_i i j
    split at h
    · rename_i hb
      cases h
      exact ⟨i, j, rfl, hb, rfl⟩
    · cases h
  · cases h
section
variable {X : Cx} {G : Cts} {W : WX} {tg : Expr}
theorem PI.of {e : Expr} {t t' : TI} (h : PI X tg e t) (k : ∀ σ H Q, t' σ H Q → t σ H Q) : PI X tg e t' := ⟨fun pins s σ H Q I hw => h.run pins s σ H Q I (k σ H Q hw)⟩
theorem PI.or {e : Expr} {t u : TI} (h : PI X tg e t) (k : PI X tg e u) : PI X tg e (fun σ H Q => t σ H Q ∨ u σ H Q) := ⟨fun pins s σ H Q I hw => hw.elim (h.run pins s σ H Q I) (k.run pins s σ H Q I)⟩
theorem PI.or3 {e : Expr} {t u v : TI} (h : PI X tg e t) (k : PI X tg e u) (l : PI X tg e v) : PI X tg e (fun σ H Q => t σ H Q ∨ u σ H Q ∨ v σ H Q) := ⟨fun pins s σ H Q I hw => by
  rcases hw with hw | hw | hw
  · exact h.run pins s σ H Q I hw
  · exact k.run pins s σ H Q I hw
  · exact l.run pins s σ H Q I hw⟩
theorem wk_rng {av : Addr → Prop} {H1 : Hp} {lo : Int} {n : Nat} : Wk G av (Itr lo n) H1 (rngD lo n) := by
  intro H a t i
  have hl : (rngD lo n).length = n := by unfold rngD; rw [List.length_map, List.length_range]
  refine ⟨fun d hd => ?_, fun h => ?_⟩
  · have hi : i < n := by rw [← hl]; exact (List.getElem?_eq_some_iff.mp hd).1
    unfold rngD at hd
    rw [List.getElem?_map, List.getElem?_range hi] at hd
    cases hd
    exact ⟨hi, fun x H' ⟨e1, e2⟩ => ⟨e1 ▸ Same.refl H, fun av' _ => e2⟩⟩
  · rw [hl] at h
    exact h
abbrev yI (G : Cts) (W : WX) (fp : Nat → List Addr) (σ : L2.St) (H : Hp) (Q : It → Hp → Prop) : R (List D) → Prop
  | .ok ds => ∀ J H1, Same H H1 → Wk G (Own fp) J H1 ds → Q J H1
  | .ex e => ∀ H', Same H H' → W (.ref (G.cls e)) none σ H'
  | .bad => False
theorem tA.it {f : List D → Option (List D)} {g : EA} {σ : L2.St} {H : Hp} {Q : List V → Hp → Prop} {Q' : It → Hp → Prop} {fp : Nat → List Addr} {fv : Nat → Option V} {ρ : Rho} (I : LSR G fp fv σ H ρ) (q : yI G W fp σ H Q' (itBy f g ρ))
    (k : ∀ ds xs, f ds = some xs → ∀ m vs H1, Same H H1 → VsOk G fp H H1 m ds vs → (∀ J, Wk G (Own fp) J H1 xs → Q' J H1) → Q vs H1) : tA G W g σ H Q := by
  refine tA.of_bind (y := yI G W fp σ H Q') I q (fun e h => h) (fun h => h) fun ds m q vs H1 e1 v1 => ?_
  dsimp only at q
  cases z : f ds with
  | none =>
    rw [z] at q
    exact q.elim
  | some xs =>
    rw [z] at q
    exact k ds xs z m vs H1 e1 v1 fun J w => q J H1 e1 w
theorem pi_ofRng1 {a : Expr} {p pos : Pos} {g : EA} (hg : Gl X "range") (hm : X.mg "range" = none) (ha : PA X [a] (tA G W g)) (hs : starEach [a] X.env = [(false, eval a X.env)] := by rfl) : PI X tg (.Call (.Name "range" p) [a] [] pos) (tI G W (itBy rng1 g)) := by
  refine PI.of (pi_range1 hg hm ha hs) fun σ H Q ⟨fp, fv, ρ, I, q⟩ => tA.it I q fun ds xs z m vs H1 e1 v1 k => ?_
  obtain ⟨j, rfl, h1, h2, rfl⟩ := rng1_some z
  obtain ⟨v, rfl, h⟩ := one_of v1.tr
  obtain rfl : v = .int j := h
  exact ⟨j, rfl, by omega, by omega, k _ wk_rng⟩
theorem pi_ofRng2 {a b : Expr} {p pos : Pos} {g : EA} (hg : Gl X "range") (hm : X.mg "range" = none) (ha : PA X [a, b] (tA G W g)) (hs : starEach [a, b] X.env = [(false, eval a X.env), (false, eval b X.env)] := by rfl) (hs2 : starEach [b] X.env = [(false, eval b X.env)] := by rfl) : PI X tg (.Call (.Name "range" p) [a, b] [] pos) (tI G W (itBy rng2 g)) := by
  refine PI.of (pi_range2 hg hm ha hs hs2) fun σ H Q ⟨fp, fv, ρ, I, q⟩ => tA.it I q fun ds xs z m vs H1 e1 v1 k => ?_
  obtain ⟨i, j, rfl, hb, rfl⟩ := rng2_some z
  obtain ⟨v, u, rfl, h, h2⟩ := two_of v1.tr
  obtain rfl : v = .int i := h
  obtain rfl : u = .int j := h2
  exact ⟨i, j, rfl, ⟨by omega, by omega, by omega, by omega⟩, k _ wk_rng⟩
theorem Tk.rdT {H1 H : Hp} (t : Tk G H1 H) {a : Addr} {xs : List V} (h : SqT G.K H1 a xs) : SqT G.K H a xs := t.1 a xs h
theorem Rep.wk {av av' : Addr → Prop} {H1 H : Hp} {d : D} {v : V} (a : Av av H1 H) (t : Tk G H1 H) (k : ∀ a, av' a → av a ∨ H1 a = none) (r : Rep G av H1 d v) : Rep G av' H d v := by
  have r1 : Rep G (fun a => av a ∨ av' a) H1 d v := Rep.weak (fun a ⟨o, q⟩ z => z.elim id fun z => by
    rcases k a z with w | w
    · exact w
    · rw [w] at q
      cases q) d v r
  have r2 : Rep G (fun a => av a ∨ av' a) H d v := Rep.ext t (fun b o n q => a b o (fun z => n (.inl z)) q) d v r1
  exact Rep.weak (fun a _ z => .inr z) d v r2
theorem its_ok {J : It} {pr : Hp → Addr → List V → Prop} {a : Addr} {vs : List V} {av : Addr → Prop} {H1 : Hp} {ds : List D} (hgo : ∀ i H x, pr H a vs → vs[i]? = some x → J.go i H) (hyl : ∀ i H x H', J.yld i H x H' → H' = H ∧ (pr H a vs → vs[i]? = some x))
    (hst : ∀ i H, pr H a vs → vs.length ≤ i → J.stop i H) (hp : ∀ H, Av av H1 H → Tk G H1 H → pr H a vs) (r : Reps G av H1 ds vs) : Wk G av J H1 ds := by
  intro H k t i
  have h := hp H k t
  refine ⟨fun d hd => ?_, fun hl => hst i H h (r.length ▸ hl)⟩
  obtain ⟨v, hv, rv⟩ := r.get hd
  refine ⟨hgo i H v h hv, fun x H' y => ?_⟩
  obtain ⟨e, z⟩ := hyl i H x H' y
  subst e
  have := z h
  rw [hv] at this
  cases this
  exact ⟨Same.refl _, fun av' k' => Rep.wk k t k' rv⟩
/-- a list (or the script), a tuple, a text -/
theorem pi_ofSeq {l : Expr} {f : E} (hl : PE X l (tE G W f)) (hK : X.K = G.K := by rfl) : PI X tg l (tI G W (itSeq f)) := by
  refine PI.of (PI.or3 (pi_list hl) (pi_tup hl) (pi_str hl)) fun σ H Q ⟨fp, fv, ρ, I, q⟩ => ?_
  have y : ∀ {A B : Prop}, A → A ∨ B := fun h => .inl h
  unfold itSeq at q
  cases z : f ρ with
  | ex e =>
    rw [z] at q
    exact .inl ⟨fp, fv, ρ, I, by rw [z]; exact q⟩
  | bad =>
    rw [z] at q
    exact q.elim
  | ok r =>
    obtain ⟨d, m⟩ := r
    rw [z] at q
    -- what holds of the value
    have key : ∃ xs, dataL d = some xs ∧ (∀ J H1, Same H H1 → Wk G (Own fp) J H1 xs → Q J H1) ∧ ∀ v H1, Same H H1 → VOk G fp H H1 m d v → Rep G (Own fp) H1 d v := by
      have opt : ∀ {P : Prop}, (match (R.opt (dataL d)) with | .ok ds => ∀ J H1, Same H H1 → Wk G (Own fp) J H1 ds → Q J H1 | .ex e => ∀ H', Same H H' → W (.ref (G.cls e)) none σ H' | .bad => False) → ∃ xs, dataL d = some xs ∧ (∀ J H1, Same H H1 → Wk G (Own fp) J H1 xs → Q J H1) := fun {P} q => by
        cases w : dataL d with
        | none =>
          rw [w] at q
          exact q.elim
        | some xs =>
          rw [w] at q
          exact ⟨xs, rfl, q⟩
      cases m with
      | fr =>
        obtain ⟨xs, a, b⟩ := opt (P := True) q
        exact ⟨xs, a, b, fun v H1 e1 h => VOk.sh I (fun z => by cases z) h⟩
      | sh =>
        obtain ⟨xs, a, b⟩ := opt (P := True) q
        exact ⟨xs, a, b, fun v H1 e1 h => h⟩
      | tr =>
        by_cases im : d.imm = true
        · have q' := q
          simp only [R.bind, im, if_true] at q'
          obtain ⟨xs, a, b⟩ := opt (P := True) q'
          exact ⟨xs, a, b, fun v H1 e1 h => VOk.sh (m := .fr) I (fun z => by cases z) (Fresh.of_imm im h.tr)⟩
        · have q' := q
          simp only [R.bind, im] at q'
          exact q'.elim
    obtain ⟨xs, hx, hq, hr⟩ := key
    have run : ∀ {P : VK}, (∀ v H1, Same H H1 → Rep G (Own fp) H1 d v → P v H1) → tE G W f σ H P := fun {P} k => ⟨fp, fv, ρ, I, by
      rw [z]
      exact fun v H1 e1 h => k v H1 e1 (hr v H1 e1 h)⟩
    cases d with
    | lst ds =>
      cases hx
      refine .inl (run fun v H1 e1 r => ?_)
      obtain ⟨a, vs, rfl, n, s, rs⟩ := r
      rw [hK]
      refine ⟨a, rfl, ⟨vs, SqL.of s⟩, hq _ H1 e1 (its_ok (pr := fun H a vs => SqL G.K H a vs) (a := a) (vs := vs) (fun i H x h hx => ⟨vs, x, h, hx⟩) (fun i H x H' y => ⟨y.1, fun h => y.2 vs h⟩) (fun i H h hl => ⟨vs, h, hl⟩) (fun H k t => SqL.of (k a _ n s)) rs)⟩
    | scr ns =>
      cases hx
      refine .inl (run fun v H1 e1 r => ?_)
      obtain ⟨a, rfl, s⟩ := r
      have rs : Reps G (Own fp) H1 (ns.map D.int) (ns.map V.int) := by
        clear hr run s z hq q
        induction ns with
        | nil => exact rfl
        | cons n ns ih => exact ⟨_, _, rfl, rfl, ih⟩
      rw [hK]
      refine ⟨a, rfl, ⟨_, s.seq⟩, hq _ H1 e1 (its_ok (pr := fun H a vs => SqL G.K H a vs) (a := a) (vs := ns.map V.int) (fun i H x h hx => ⟨_, x, h, hx⟩) (fun i H x H' y => ⟨y.1, fun h => y.2 _ h⟩) (fun i H h hl => ⟨_, h, hl⟩) (fun H k t => (t.2 a _ s).seq) rs)⟩
    | tup ds =>
      cases hx
      refine .inr (.inl (run fun v H1 e1 r => ?_))
      obtain ⟨a, vs, rfl, s, rs⟩ := r
      rw [hK]
      refine ⟨a, rfl, ⟨vs, s⟩, hq _ H1 e1 (its_ok (pr := fun H a vs => SqT G.K H a vs) (a := a) (vs := vs) (fun i H x h hx => ⟨vs, x, h, hx⟩) (fun i H x H' y => ⟨y.1, fun h => y.2 vs h⟩) (fun i H h hl => ⟨vs, h, hl⟩) (fun H k t => t.1 a _ s) rs)⟩
    | str x =>
      cases hx
      refine .inr (.inr (run fun v H1 e1 r => ?_))
      obtain rfl : v = .str x := r
      refine ⟨x, rfl, hq _ H1 e1 fun H k t i => ⟨fun d hd => ?_, fun hl => ?_⟩⟩
      · rw [List.getElem?_map, Array.getElem?_toList] at hd
        cases w : x.cps[i]? with
        | none =>
          rw [w] at hd
          cases hd
        | some c =>
          rw [w] at hd
          cases hd
          refine ⟨(Array.getElem?_eq_some_iff.mp w).1, fun u H' ⟨e1, c', e2, e3⟩ => ⟨e1 ▸ Same.refl H, fun av' _ => ?_⟩⟩
          rw [w] at e2
          cases e2
          exact e3
      · rw [List.length_map, Array.length_toList] at hl
        exact hl
    | _ => cases hx
/-! ### what the module's names hold -/
theorem px_glob {x : Str} {d : D} {v : V} {u : Value} {pos : Pos} (hg : Gl X x) (hm : X.mg x = some u) (r : RelV v u) (im : d.imm = true) (hr : ∀ H, Rep G Nav H d v) (hd : (x == ("__debug__" : Str)) = false := by decide) : PE X (.Name x pos) (tE G W (eC d)) := px_c (pe_glob hg hm r hd) im hr
/-- a module's constant -/
structure Cst (G : Cts) (mg : Str → Option Value) (x : Str) (d : D) : Prop where
  at' : ∃ u v, mg x = some u ∧ RelV v u ∧ d.imm = true ∧ ∀ H, Rep G Nav H d v
theorem px_cst {x : Str} {d : D} {pos : Pos} (c : Cst G X.mg x d) (hg : Gl X x) (hd : (x == ("__debug__" : Str)) = false := by decide) : PE X (.Name x pos) (tE G W (eC d)) := by
  obtain ⟨u, v, h1, h2, h3, h4⟩ := c.at'
  exact px_glob hg h1 h2 h3 h4 hd
theorem Cst.int {mg : Str → Option Value} {x : Str} {i : Int} {t : Tok} (h : mg x = some (.int i t)) : Cst G mg x (.int i) := ⟨_, .int i, h, ⟨t, rfl⟩, rfl, fun _ => rfl⟩
theorem Cst.str {mg : Str → Option Value} {x : Str} {i : Str} {t : Tok} (h : mg x = some (.str i t)) : Cst G mg x (.str i) := ⟨_, .str i, h, ⟨t, rfl⟩, rfl, fun _ => rfl⟩
end
/-- a def of the text, where the module's names find it -/
structure FnAt (G : Cts) (mg : Str → Option Value) (x : Str) (st : Stmt) : Prop where
  at' : ∃ f fd, Fun G.K x x st f fd ∧ mg x = some (.ref f)
end Dn
set_option Elab.async false
set_option linter.all false
set_option maxRecDepth 100000
set_option maxHeartbeats 2000000
/-! Dn10: the end of a law. -/
namespace Dn
open PySem L2
theorem _root_.L2.Fun.lk {K : PySem.W.Frag} {x qual : Str} {st : Stmt} {f : Addr} {fd : FuncData} (F : Fun K x qual st f fd) : ∃ oc od sl, K.lookup f = some ⟨oc, od, .func fd, sl⟩ := by
  obtain ⟨oc, od, kV, doc, pm, an, cdv, ct, osl, rfl, lk, hcd⟩ := F.ex
  exact ⟨oc, od, osl, lk⟩
theorem FnAt.of {K : PySem.W.Frag} {cl : Nat → Addr} {mg : Str → Option Value} {x : Str} {st : Stmt} {f : Addr} {oc : Value} {od an : Option Addr} {osl : Array (Option Value)} {kV doc pm cdv ct : Value} (m : mg x = some (.ref f))
    (l : K.lookup f = some ⟨oc, od, .func (PySem.W.fnOf x x (defArgs st) (defBody st) (defScope st) .none kV doc pm an cdv ct), osl⟩)
    (c : PySem.W.codeIn K cdv x = true) (k : PySem.W.keepIn K (.ref f) = true) : FnAt ⟨K, cl⟩ mg x st := ⟨f, _, fun_mk l c k, m⟩
abbrev GK {K : PySem.W.Frag} {h : Heap} (_ : K.In h) (c : Nat → Addr) : Cts := ⟨K, c⟩
/-- the law's own promise -/
def spLaw (K : PySem.W.Frag) : Sp := fun vs H Q _ => ∃ (a : Addr) (ns : List Int), vs = [.ref a] ∧ ScrL K H a (ns.map V.int) ∧ ns.length ≤ 63 ∧ ∀ H', Q (.bl true) H'
theorem law_fd {P : Program} {w : World} {mg : Str → Option Value} {G : Cts} {st : Stmt} {x y : Str} {k : Nat} {F : List D → R D} {fa : Addr} (A : FnAt G mg y st) (hfa : mg y = some (.ref fa))
    (hb : ∀ (kV doc pm : Value) (an : Option Addr) (cdv ct : Value) (s : Shared) (v : Value), BindsTo s (PySem.W.fnOf y y (defArgs st) (defBody st) (defScope st) .none kV doc pm an cdv ct) ⟨[v], []⟩ [(x, v)])
    (math : ∀ ns : List Int, ns.length ≤ 63 → F [.scr ns] = .ok (.bl true)) (c : ∀ base : Heap, Cal G P w mg base k y [x] F) :
    ∃ fd : FuncData, (∀ (s : Shared) (v : Value), BindsTo s fd ⟨[v], []⟩ [(x, v)]) ∧ ∀ base : Heap, FnOk P w G.K mg base (L2.CX P w) k fa fd [x] (spLaw G.K) := by
  obtain ⟨f, fd, Fu, hm⟩ := A.at'
  obtain ⟨oc, od, kV, doc, pm, an, cdv, ct, osl, rfl, lk, hcd⟩ := Fu.ex
  rw [hfa] at hm
  cases hm
  refine ⟨_, hb kV doc pm an cdv ct, fun base => ?_⟩
  obtain ⟨f', fd', ok, hm', _, _, oc', od', sl', lk'⟩ := (c base).at'
  rw [hfa] at hm'
  cases hm'
  rw [lk] at lk'
  cases lk'
  refine ok.imp fun vs H Q E' ⟨a, ns, e, s, hl, q⟩ => ?_
  subst e
  refine ⟨rfl, [.scr ns], ⟨_, [], rfl, ⟨a, rfl, s⟩, rfl⟩, ?_⟩
  rw [math ns hl]
  exact fun v H' _ fr => by
    obtain rfl : v = .bl true := fr.rep (av := Nav) fun _ z => z.elim
    exact q H'
theorem walk {l : PySem.W.OpenLaw} {k : Nat} {x : Str} {q : Program} {loose : List Str} {XP : (Str → Option Value) → Heap → Prop} {YP : World → Heap → Prop} {d : DefRec} {K : Params → PySem.W.Frag} (hn : l.most = some 63) (hdf : d.params.defaults = []) (hr : Room k callerA)
    (hY : ∀ (w : World) (h : Heap), YP w h → (K w.params).In h)
    (F : ∀ (w : World) (mg : Str → Option Value) (fa : Addr) (h : Heap), (K w.params).In h → h.Ns mainGlobals mg → mg d.name = some (.ref fa) →
      ∃ fd : FuncData, (∀ (s : Shared) (u : Value), BindsTo s fd ⟨[u], []⟩ [(x, u)]) ∧ ∀ base : Heap, FnOk l.prog w (K w.params) mg base (L2.CX l.prog w) k fa fd [x] (spLaw (K w.params))) :
    PySem.W.WalkO q loose XP YP l.row.toRowW d [] (fun f vs => PySem.call f vs) :=
  L2.walk_of (n := 63) (k := k) (x := x) (CX := fun w => L2.CX l.prog w) (sp := fun w => spLaw (K w.params)) hn (by decide) hdf hr hY
    (fun w mg fa h a b c => let ⟨fd, h1, h2⟩ := F w mg fa h a b c; ⟨fd, h1, fun base _ _ => h2 base⟩)
    (fun w H a ns hl hO hS => ⟨a, ns, rfl, by
      rcases hS with (s | s) | s
      · rcases hO a with z | ⟨o, xs, z⟩
        · rw [s] at z
          cases z
        · rw [s] at z
          cases z
      · exact .inl s
      · exact .inr s, hl, fun _ => rfl⟩) fun w H s e s' ⟨_, _, _, _, _, _, _, _, _, _, _, _, z⟩ => z
end Dn
set_option Elab.async false
set_option linter.all false
set_option maxRecDepth 100000
set_option maxHeartbeats 4000000
namespace Dn
open PySem L2
def k_WORD : D := .int 4294967295
def B_taken : S := (fSeq (sAsg 3 (eBin oSub (eBin oSub (eVar 0) (eVar 1)) (eFn oInt (eCons (eVar 2) eNil))))
  (sRet (eTup (eCons (eBin oAnd (eVar 3) (eC k_WORD)) (eCons (eBin oLt (eVar 3) (eC (.int 0))) eNil)))))
def F_taken : List D → R D := fnD 3 4 B_taken

def B__law_cell_at : S := (fSeq (sIf (tOf (eBin oLt (eVar 1) (eFn oLen (eCons (eVar 0) eNil)))) (sRet (eIx (eVar 0) (eVar 1))) fPass)
  (sRet (eC (.int 0))))
def F__law_cell_at : List D → R D := fnD 2 2 B__law_cell_at

def B__law_whole : S := (sRet (eAndV (eFn oIsi (eCons (eVar 0) (eCons (eC (.ty "int")) eNil))) (eNotV (eFn oIsi (eCons (eVar 0) (eCons (eC (.ty "bool")) eNil))))))
def F__law_whole : List D → R D := fnD 1 1 B__law_whole

def B__law_mixed : S := (fSeq (sAsg 3 (eLst (eCons (eC (.int 99991)) (eCons (eC (.int 99989)) (eCons (eC (.int 99971)) (eCons (eC (.int 99961)) (eCons (eC (.int 99929)) (eCons (eC (.int 99923)) (eCons (eC (.int 99907)) (eCons (eC (.int 99901)) (eCons (eC (.int 99881)) (eCons (eC (.int 99877)) (eCons (eC (.int 99871)) eNil)))))))))))))
  (fSeq (sAsg 4 (eBin oMod (eBin oMulI (eBin oAdd (eVar 0) (eBin oMulI (eC (.int 7)) (eVar 1))) (eC (.int 48271))) (eIx (eVar 3) (eBin oMod (eVar 1) (eC (.int 11))))))
  (sRet (eBin oMod (eBin oMod (eBin oAdd (eBin oAdd (eBin oMulI (eBin oMulI (eVar 4) (eVar 4)) (eC (.int 7))) (eVar 4)) (eVar 1)) (eC (.int 1000003))) (eVar 2)))))
def F__law_mixed : List D → R D := fnD 3 5 B__law_mixed

def B__law_word_by : S := (fSeq (sAsg 2 (eCall F__law_mixed (eCons (eVar 0) (eCons (eVar 1) (eCons (eC (.int 9)) eNil)))))
  (fSeq (sIf (tOf (eBin oEq (eVar 2) (eC (.int 0)))) (sRet (eIx (eLst (eCons (eC (.int 0)) (eCons (eC (.int 1)) (eCons (eBin oPow (eC (.int 2)) (eC (.int 31))) (eCons (eBin oSub (eBin oPow (eC (.int 2)) (eC (.int 31))) (eC (.int 1))) (eCons (eBin oSub (eBin oPow (eC (.int 2)) (eC (.int 32))) (eC (.int 1))) (eCons (eBin oSub (eBin oPow (eC (.int 2)) (eC (.int 32))) (eC (.int 2))) (eCons (eBin oPow (eC (.int 2)) (eC (.int 16))) (eCons (eBin oSub (eBin oPow (eC (.int 2)) (eC (.int 16))) (eC (.int 1))) eNil))))))))) (eCall F__law_mixed (eCons (eVar 0) (eCons (eBin oAdd (eVar 1) (eC (.int 1))) (eCons (eC (.int 8)) eNil)))))) fPass)
  (fSeq (sAsg 3 (eC (.int 1)))
  (fSeq (sFor (itBy rng1 (eCons (eCall F__law_mixed (eCons (eVar 0) (eCons (eBin oAdd (eVar 1) (eC (.int 2))) (eCons (eC (.int 32)) eNil)))) eNil)) (tgN 4) (sAsg 3 (eBin oMulI (eC (.int 2)) (eVar 3))))
  (fSeq (sIf (tOf (eBin oLt (eVar 2) (eC (.int 3)))) (sRet (eIx (eLst (eCons (eVar 3) (eCons (eBin oSub (eBin oMulI (eC (.int 2)) (eVar 3)) (eC (.int 1))) eNil))) (eBin oSub (eVar 2) (eC (.int 1))))) fPass)
  (fSeq (sIf (tOf (eBin oEq (eVar 2) (eC (.int 3)))) (sRet (eBin oMod (eVar 0) (eBin oPow (eC (.int 2)) (eC (.int 32))))) fPass)
  (sRet (eBin oMod (eBin oAdd (eBin oMulI (eCall F__law_mixed (eCons (eVar 0) (eCons (eBin oAdd (eVar 1) (eC (.int 3))) (eCons (eC (.int 65536)) eNil)))) (eC (.int 65536))) (eCall F__law_mixed (eCons (eVar 0) (eCons (eBin oAdd (eVar 1) (eC (.int 5))) (eCons (eC (.int 65536)) eNil))))) (eIx (eLst (eCons (eBin oPow (eC (.int 2)) (eC (.int 32))) (eCons (eBin oMulI (eVar 3) (eC (.int 2))) eNil))) (eBin oMod (eVar 2) (eC (.int 2))))))))))))
def F__law_word_by : List D → R D := fnD 2 5 B__law_word_by

def B__law_power : S := (fSeq (sAsg 1 (eC (.int 1)))
  (fSeq (sFor (itBy rng1 (eCons (eVar 0) eNil)) (tgN 2) (sAsg 1 (eBin oMulI (eC (.int 2)) (eVar 1))))
  (sRetV 1)))
def F__law_power : List D → R D := fnD 1 3 B__law_power

def B__law_pair_is : S := (fSeq (sIf (tOr' (tNot' (tTru (eFn oIsi (eCons (eVar 0) (eCons (eC (.ty "tuple")) eNil))))) (tOr' (tOf (eBin oNe (eFn oLen (eCons (eVar 0) eNil)) (eC (.int 2)))) (tOr' (tNot' (tTru (eCall F__law_whole (eCons (eIx (eVar 0) (eC (.int 0))) eNil)))) (tOf (eBin oNe (eIx (eVar 0) (eC (.int 0))) (eIx (eVar 1) (eC (.int 0)))))))) (sRet (eC (.bl false))) fPass)
  (fSeq (sIf (tOf (eBin oIs (eIx (eVar 1) (eC (.int 1))) (eC .non))) (sRet (eBin oIs (eIx (eVar 0) (eC (.int 1))) (eC .non))) fPass)
  (sRet (eAndV (eFn oIsi (eCons (eIx (eVar 0) (eC (.int 1))) (eCons (eC (.ty "bool")) eNil))) (eBin oEq (eIx (eVar 0) (eC (.int 1))) (eIx (eVar 1) (eC (.int 1))))))))
def F__law_pair_is : List D → R D := fnD 2 2 B__law_pair_is

def B_law : S := (fSeq (sAsg 1 (eCall F__law_word_by (eCons (eCall F__law_cell_at (eCons (eVar 0) (eCons (eC (.int 0)) eNil))) (eCons (eC (.int 0)) eNil))))
  (fSeq (sAsg 2 (eCall F__law_word_by (eCons (eCall F__law_cell_at (eCons (eVar 0) (eCons (eC (.int 1)) eNil))) (eCons (eC (.int 1)) eNil))))
  (fSeq (sAsg 3 (eCall F__law_cell_at (eCons (eVar 0) (eCons (eC (.int 2)) eNil))))
  (fSeq (sAsg 4 (eBin oEq (eBin oMod (eVar 3) (eC (.int 2))) (eC (.int 1))))
  (fSeq (sIf (tOf (eBin oEq (eBin oMod (eBin oDiv (eVar 3) (eC (.int 2))) (eC (.int 4))) (eC (.int 1)))) (sAsg 2 (eBin oMod (eBin oSub (eBin oAdd (eVar 1) (eBin oMod (eBin oDiv (eVar 3) (eC (.int 8))) (eC (.int 3)))) (eC (.int 1))) (eBin oPow (eC (.int 2)) (eC (.int 32))))) fPass)
  (fSeq (sAsg 5 (eBin oSub (eVar 1) (eVar 2)))
  (fSeq (sIf (tTru (eVar 4)) (sAsg 5 (eBin oSub (eVar 5) (eC (.int 1)))) fPass)
  (fSeq (sAsg 6 (eTup (eCons (eVar 5) (eCons (eC (.bl false)) eNil))))
  (fSeq (sIf (tOf (eBin oLt (eVar 5) (eC (.int 0)))) (sAsg 6 (eTup (eCons (eBin oAdd (eVar 5) (eBin oPow (eC (.int 2)) (eC (.int 32)))) (eCons (eC (.bl true)) eNil)))) fPass)
  (sRet (eCall F__law_pair_is (eCons (eCall F_taken (eCons (eVar 1) (eCons (eVar 2) (eCons (eVar 4) eNil)))) (eCons (eVar 6) eNil)))))))))))))
def F_law : List D → R D := fnD 1 7 B_law

end Dn
namespace Dn
open PySem L2
def top (i : Nat) : Stmt := PySem.Challenge.pw_markrun_k02_taken.main.body.getD i (.Pass ⟨0, 0, 0, 0⟩)
structure Txt (G : Cts) (mg : Str → Option Value) : Prop where
  b_bool : mg "bool" = none
  b_int : mg "int" = none
  b_isinstance : mg "isinstance" = none
  b_len : mg "len" = none
  b_range : mg "range" = none
  b_tuple : mg "tuple" = none
  c_WORD : Cst G mg "WORD" k_WORD
section
variable {P : Program} {w : World} {mg : Str → Option Value} {base : Heap} {G : Cts}
abbrev s_taken : Stmt := top 2
theorem c_taken (T : Txt G mg) (A0 : FnAt G mg "taken" s_taken)  : Cal G P w mg base 1 "taken" ["one", "other", "borrow"] F_taken := by
  obtain ⟨f, fd, F, hm⟩ := A0.at'
  have sc : FnScope ["one", "other", "borrow", "left"] ["one", "other", "borrow"] (defScope s_taken) := ⟨rfl, rfl, rfl, by decide +kernel, rfl, by decide +kernel, by decide +kernel⟩
  refine ⟨fun ds h => if_neg h, f, fd, fn_den (k := 0) F sc (by decide) fun cdv A outer s H E' hr tk hp => ?_, hm, F.kp, F.binds fun _ _ _ _ _ _ us hl => match us, hl with | [_, _, _], _ => rfl, F.lk⟩
  exact (px_seq (px_asg (ps_set (i := 3) sc.nd rfl (.inl rfl) (px_bin op_sub op2_sub (px_bin op_sub op2_sub (px_var (pv 0)) (px_var (pv 1))) (px_fn (pe_callTy call_int1 (by rfl) T.b_int (by decide +kernel) (px_cons (px_var (pv 2)) px_nil)) opn_int))))
  (px_one' (px_ret (px_tup (px_cons (px_bin op_and op2_and (px_var (pv 3)) (px_cst T.c_WORD (by rfl))) (px_cons (px_cmp op_lt op2_lt (px_var (pv 3)) px_int (nomark _)) px_nil))))))

abbrev s__law_cell_at : Stmt := top 4
theorem c__law_cell_at (T : Txt G mg) (A0 : FnAt G mg "_law_cell_at" s__law_cell_at)  : Cal G P w mg base 1 "_law_cell_at" ["_law_script", "_law_k"] F__law_cell_at := by
  obtain ⟨f, fd, F, hm⟩ := A0.at'
  have sc : FnScope ["_law_script", "_law_k"] ["_law_script", "_law_k"] (defScope s__law_cell_at) := ⟨rfl, rfl, rfl, by decide +kernel, rfl, by decide +kernel, by decide +kernel⟩
  refine ⟨fun ds h => if_neg h, f, fd, fn_den (k := 0) F sc (by decide) fun cdv A outer s H E' hr tk hp => ?_, hm, F.kp, F.binds fun _ _ _ _ _ _ us hl => match us, hl with | [_, _], _ => rfl, F.lk⟩
  have hu := hr.units
  have hu1 := hu_of hr
  exact (px_seq (px_ifs (pt_of_cmp op_lt op2_lt (px_var (pv 1)) (px_fn (pe_callB call_lenA (by rfl) T.b_len (by decide +kernel) (px_cons (px_var (pv 0)) px_nil)) opn_len) (nomark _)) (px_one' (px_ret (px_ix hu1 (px_var (pv 0)) (px_var (pv 1))))) px_pnil)
  (px_one' (px_ret px_int)))

abbrev s__law_whole : Stmt := top 5
theorem c__law_whole (T : Txt G mg) (A0 : FnAt G mg "_law_whole" s__law_whole)  : Cal G P w mg base 1 "_law_whole" ["_law_found"] F__law_whole := by
  obtain ⟨f, fd, F, hm⟩ := A0.at'
  have sc : FnScope ["_law_found"] ["_law_found"] (defScope s__law_whole) := ⟨rfl, rfl, rfl, by decide +kernel, rfl, by decide +kernel, by decide +kernel⟩
  refine ⟨fun ds h => if_neg h, f, fd, fn_den (k := 0) F sc (by decide) fun cdv A outer s H E' hr tk hp => ?_, hm, F.kp, F.binds fun _ _ _ _ _ _ us hl => match us, hl with | [_], _ => rfl, F.lk⟩
  exact (px_one' (px_ret (px_and (px_fn (pe_callB call_isi (by rfl) T.b_isinstance (by decide +kernel) (px_cons (px_var (pv 0)) (px_cons (px_bty (by rfl) T.b_int (by decide +kernel)) px_nil))) opn_isi) (px_one (px_not (px_fn (pe_callB call_isi (by rfl) T.b_isinstance (by decide +kernel) (px_cons (px_var (pv 0)) (px_cons (px_bty (by rfl) T.b_bool (by decide +kernel)) px_nil))) opn_isi))))))

abbrev s__law_mixed : Stmt := top 6
theorem c__law_mixed (T : Txt G mg) (A0 : FnAt G mg "_law_mixed" s__law_mixed)  : Cal G P w mg base 1 "_law_mixed" ["_law_cell", "_law_k", "_law_many"] F__law_mixed := by
  obtain ⟨f, fd, F, hm⟩ := A0.at'
  have sc : FnScope ["_law_cell", "_law_k", "_law_many", "_law_some", "_law_made"] ["_law_cell", "_law_k", "_law_many"] (defScope s__law_mixed) := ⟨rfl, rfl, rfl, by decide +kernel, rfl, by decide +kernel, by decide +kernel⟩
  refine ⟨fun ds h => if_neg h, f, fd, fn_den (k := 0) F sc (by decide) fun cdv A outer s H E' hr tk hp => ?_, hm, F.kp, F.binds fun _ _ _ _ _ _ us hl => match us, hl with | [_, _, _], _ => rfl, F.lk⟩
  have hu := hr.units
  have hu1 := hu_of hr
  exact (px_seq (px_asg (ps_set (i := 3) sc.nd rfl (.inl rfl) (px_lst (px_cons px_int (px_cons px_int (px_cons px_int (px_cons px_int (px_cons px_int (px_cons px_int (px_cons px_int (px_cons px_int (px_cons px_int (px_cons px_int (px_cons px_int px_nil))))))))))))))
  (px_seq (px_asg (ps_set (i := 4) sc.nd rfl (.inl rfl) (px_bin op_mod op2_mod (px_bin op_mul op2_mulI (px_bin op_addA op2_add (px_var (pv 0)) (px_bin op_mul op2_mulI px_int (px_var (pv 1)))) px_int) (px_ix hu1 (px_var (pv 3)) (px_bin op_mod op2_mod (px_var (pv 1)) px_int)))))
  (px_one' (px_ret (px_bin op_mod op2_mod (px_bin op_mod op2_mod (px_bin op_addA op2_add (px_bin op_addA op2_add (px_bin op_mul op2_mulI (px_bin op_mul op2_mulI (px_var (pv 4)) (px_var (pv 4))) px_int) (px_var (pv 4))) (px_var (pv 1))) px_int) (px_var (pv 2)))))))

abbrev s__law_word_by : Stmt := top 7
theorem c__law_word_by (T : Txt G mg) (A0 : FnAt G mg "_law_word_by" s__law_word_by) (c__law_mixed : Cal G P w mg base 1 "_law_mixed" ["_law_cell", "_law_k", "_law_many"] F__law_mixed) : Cal G P w mg base 2 "_law_word_by" ["_law_cell", "_law_k"] F__law_word_by := by
  obtain ⟨f, fd, F, hm⟩ := A0.at'
  have sc : FnScope ["_law_cell", "_law_k", "_law_way", "_law_power_here", "_law_turn"] ["_law_cell", "_law_k"] (defScope s__law_word_by) := ⟨rfl, rfl, rfl, by decide +kernel, rfl, by decide +kernel, by decide +kernel⟩
  refine ⟨fun ds h => if_neg h, f, fd, fn_den (k := 1) F sc (by decide) fun cdv A outer s H E' hr tk hp => ?_, hm, F.kp, F.binds fun _ _ _ _ _ _ us hl => match us, hl with | [_, _], _ => rfl, F.lk⟩
  have hu := hr.units
  have hu1 := hu_of hr
  exact (px_seq (px_asg (ps_set (i := 2) sc.nd rfl (.inl rfl) (px_call c__law_mixed hr (by decide) (by rfl) tk (px_cons (px_var (pv 0)) (px_cons (px_var (pv 1)) (px_cons px_int px_nil))))))
  (px_seq (px_ifs (pt_of_cmp (op_eqP hu) op2_eq (px_var (pv 2)) px_int (nomark _)) (px_one' (px_ret (px_ix hu1 (px_lst (px_cons px_int (px_cons px_int (px_cons (px_bin op_pow op2_pow px_int px_int) (px_cons (px_bin op_sub op2_sub (px_bin op_pow op2_pow px_int px_int) px_int) (px_cons (px_bin op_sub op2_sub (px_bin op_pow op2_pow px_int px_int) px_int) (px_cons (px_bin op_sub op2_sub (px_bin op_pow op2_pow px_int px_int) px_int) (px_cons (px_bin op_pow op2_pow px_int px_int) (px_cons (px_bin op_sub op2_sub (px_bin op_pow op2_pow px_int px_int) px_int) px_nil))))))))) (px_call c__law_mixed hr (by decide) (by rfl) tk (px_cons (px_var (pv 0)) (px_cons (px_bin op_addA op2_add (px_var (pv 1)) px_int) (px_cons px_int px_nil))))))) px_pnil)
  (px_seq (px_asg (ps_set (i := 3) sc.nd rfl (.inl rfl) px_int))
  (px_seq (px_for hp rfl (pi_ofRng1 (by rfl) T.b_range (px_cons (px_call c__law_mixed hr (by decide) (by rfl) tk (px_cons (px_var (pv 0)) (px_cons (px_bin op_addA op2_add (px_var (pv 1)) px_int) (px_cons px_int px_nil)))) px_nil)) (pg_of (pg_name (i := 4) sc.nd rfl (.inl rfl))) (px_one' (px_asg (ps_set (i := 3) sc.nd rfl (.inl rfl) (px_bin op_mul op2_mulI px_int (px_var (pv 3)))))))
  (px_seq (px_ifs (pt_of_cmp op_lt op2_lt (px_var (pv 2)) px_int (nomark _)) (px_one' (px_ret (px_ix hu1 (px_lst (px_cons (px_var (pv 3)) (px_cons (px_bin op_sub op2_sub (px_bin op_mul op2_mulI px_int (px_var (pv 3))) px_int) px_nil))) (px_bin op_sub op2_sub (px_var (pv 2)) px_int)))) px_pnil)
  (px_seq (px_ifs (pt_of_cmp (op_eqP hu) op2_eq (px_var (pv 2)) px_int (nomark _)) (px_one' (px_ret (px_bin op_mod op2_mod (px_var (pv 0)) (px_bin op_pow op2_pow px_int px_int)))) px_pnil)
  (px_one' (px_ret (px_bin op_mod op2_mod (px_bin op_addA op2_add (px_bin op_mul op2_mulI (px_call c__law_mixed hr (by decide) (by rfl) tk (px_cons (px_var (pv 0)) (px_cons (px_bin op_addA op2_add (px_var (pv 1)) px_int) (px_cons px_int px_nil)))) px_int) (px_call c__law_mixed hr (by decide) (by rfl) tk (px_cons (px_var (pv 0)) (px_cons (px_bin op_addA op2_add (px_var (pv 1)) px_int) (px_cons px_int px_nil))))) (px_ix hu1 (px_lst (px_cons (px_bin op_pow op2_pow px_int px_int) (px_cons (px_bin op_mul op2_mulI (px_var (pv 3)) px_int) px_nil))) (px_bin op_mod op2_mod (px_var (pv 2)) px_int)))))))))))

abbrev s__law_power : Stmt := top 8
theorem c__law_power (T : Txt G mg) (A0 : FnAt G mg "_law_power" s__law_power)  : Cal G P w mg base 1 "_law_power" ["_law_many"] F__law_power := by
  obtain ⟨f, fd, F, hm⟩ := A0.at'
  have sc : FnScope ["_law_many", "_law_power_here", "_law_turn"] ["_law_many"] (defScope s__law_power) := ⟨rfl, rfl, rfl, by decide +kernel, rfl, by decide +kernel, by decide +kernel⟩
  refine ⟨fun ds h => if_neg h, f, fd, fn_den (k := 0) F sc (by decide) fun cdv A outer s H E' hr tk hp => ?_, hm, F.kp, F.binds fun _ _ _ _ _ _ us hl => match us, hl with | [_], _ => rfl, F.lk⟩
  exact (px_seq (px_asg (ps_set (i := 1) sc.nd rfl (.inl rfl) px_int))
  (px_seq (px_for hp rfl (pi_ofRng1 (by rfl) T.b_range (px_cons (px_var (pv 0)) px_nil)) (pg_of (pg_name (i := 2) sc.nd rfl (.inl rfl))) (px_one' (px_asg (ps_set (i := 1) sc.nd rfl (.inl rfl) (px_bin op_mul op2_mulI px_int (px_var (pv 1)))))))
  (px_one' (px_retV (pv 1)))))

abbrev s__law_pair_is : Stmt := top 9
theorem c__law_pair_is (T : Txt G mg) (A0 : FnAt G mg "_law_pair_is" s__law_pair_is) (c__law_whole : Cal G P w mg base 1 "_law_whole" ["_law_found"] F__law_whole) : Cal G P w mg base 2 "_law_pair_is" ["_law_found", "_law_due"] F__law_pair_is := by
  obtain ⟨f, fd, F, hm⟩ := A0.at'
  have sc : FnScope ["_law_found", "_law_due"] ["_law_found", "_law_due"] (defScope s__law_pair_is) := ⟨rfl, rfl, rfl, by decide +kernel, rfl, by decide +kernel, by decide +kernel⟩
  refine ⟨fun ds h => if_neg h, f, fd, fn_den (k := 1) F sc (by decide) fun cdv A outer s H E' hr tk hp => ?_, hm, F.kp, F.binds fun _ _ _ _ _ _ us hl => match us, hl with | [_, _], _ => rfl, F.lk⟩
  have hu := hr.units
  have hu1 := hu_of hr
  exact (px_seq (px_ifs (PW.pt (pw_ofOr (pt_ofNot (pt_tru (px_fn (pe_callB call_isi (by rfl) T.b_isinstance (by decide +kernel) (px_cons (px_var (pv 0)) (px_cons (px_bty (by rfl) T.b_tuple (by decide +kernel)) px_nil))) opn_isi))) (pw_ofOr (pt_of_cmp (op_neP hu) op2_ne (px_fn (pe_callB call_lenA (by rfl) T.b_len (by decide +kernel) (px_cons (px_var (pv 0)) px_nil)) opn_len) px_int (nomark _)) (pw_ofOr (pt_ofNot (pt_tru (px_call c__law_whole hr (by decide) (by rfl) tk (px_cons (px_ix hu1 (px_var (pv 0)) px_int) px_nil)))) (pw_of1o (pt_of_cmp (op_neP hu) op2_ne (px_ix hu1 (px_var (pv 0)) px_int) (px_ix hu1 (px_var (pv 1)) px_int) (nomark _))))))) (px_one' (px_ret px_bl)) px_pnil)
  (px_seq (px_ifs (pt_of_cmp op_is' op2_is (px_ix hu1 (px_var (pv 1)) px_int) px_non (nomark _)) (px_one' (px_ret (px_cmp op_is' op2_is (px_ix hu1 (px_var (pv 0)) px_int) px_non (nomark _)))) px_pnil)
  (px_one' (px_ret (px_and (px_fn (pe_callB call_isi (by rfl) T.b_isinstance (by decide +kernel) (px_cons (px_ix hu1 (px_var (pv 0)) px_int) (px_cons (px_bty (by rfl) T.b_bool (by decide +kernel)) px_nil))) opn_isi) (px_one (px_cmp (op_eqP hu) op2_eq (px_ix hu1 (px_var (pv 0)) px_int) (px_ix hu1 (px_var (pv 1)) px_int) (nomark _))))))))

abbrev s_law : Stmt := top 10
theorem c_law (T : Txt G mg) (A0 : FnAt G mg "law" s_law) (c__law_cell_at : Cal G P w mg base 1 "_law_cell_at" ["_law_script", "_law_k"] F__law_cell_at) (c__law_pair_is : Cal G P w mg base 2 "_law_pair_is" ["_law_found", "_law_due"] F__law_pair_is) (c__law_word_by : Cal G P w mg base 2 "_law_word_by" ["_law_cell", "_law_k"] F__law_word_by) (c_taken : Cal G P w mg base 1 "taken" ["one", "other", "borrow"] F_taken) : Cal G P w mg base 3 "law" ["_law_script"] F_law := by
  obtain ⟨f, fd, F, hm⟩ := A0.at'
  have sc : FnScope ["_law_script", "_law_one", "_law_other", "_law_cell", "_law_borrow", "_law_left", "_law_due"] ["_law_script"] (defScope s_law) := ⟨rfl, rfl, rfl, by decide +kernel, rfl, by decide +kernel, by decide +kernel⟩
  refine ⟨fun ds h => if_neg h, f, fd, fn_den (k := 2) F sc (by decide) fun cdv A outer s H E' hr tk hp => ?_, hm, F.kp, F.binds fun _ _ _ _ _ _ us hl => match us, hl with | [_], _ => rfl, F.lk⟩
  have hu := hr.units
  have hu1 := hu_of hr
  exact (px_seq (px_asg (ps_set (i := 1) sc.nd rfl (.inl rfl) (px_call c__law_word_by hr (by decide) (by rfl) tk (px_cons (px_call c__law_cell_at hr (by decide) (by rfl) tk (px_cons (px_var (pv 0)) (px_cons px_int px_nil))) (px_cons px_int px_nil)))))
  (px_seq (px_asg (ps_set (i := 2) sc.nd rfl (.inl rfl) (px_call c__law_word_by hr (by decide) (by rfl) tk (px_cons (px_call c__law_cell_at hr (by decide) (by rfl) tk (px_cons (px_var (pv 0)) (px_cons px_int px_nil))) (px_cons px_int px_nil)))))
  (px_seq (px_asg (ps_set (i := 3) sc.nd rfl (.inl rfl) (px_call c__law_cell_at hr (by decide) (by rfl) tk (px_cons (px_var (pv 0)) (px_cons px_int px_nil)))))
  (px_seq (px_asg (ps_set (i := 4) sc.nd rfl (.inl rfl) (px_cmp (op_eqP hu) op2_eq (px_bin op_mod op2_mod (px_var (pv 3)) px_int) px_int (nomark _))))
  (px_seq (px_ifs (pt_of_cmp (op_eqP hu) op2_eq (px_bin op_mod op2_mod (px_bin op_fdivW op2_div (px_var (pv 3)) px_int) px_int) px_int (nomark _)) (px_one' (px_asg (ps_set (i := 2) sc.nd rfl (.inl rfl) (px_bin op_mod op2_mod (px_bin op_sub op2_sub (px_bin op_addA op2_add (px_var (pv 1)) (px_bin op_mod op2_mod (px_bin op_fdivW op2_div (px_var (pv 3)) px_int) px_int)) px_int) (px_bin op_pow op2_pow px_int px_int))))) px_pnil)
  (px_seq (px_asg (ps_set (i := 5) sc.nd rfl (.inl rfl) (px_bin op_sub op2_sub (px_var (pv 1)) (px_var (pv 2)))))
  (px_seq (px_ifs (pt_tru (px_var (pv 4))) (px_one' (px_asg (ps_set (i := 5) sc.nd rfl (.inl rfl) (px_bin op_sub op2_sub (px_var (pv 5)) px_int)))) px_pnil)
  (px_seq (px_asg (ps_set (i := 6) sc.nd rfl (.inl rfl) (px_tup (px_cons (px_var (pv 5)) (px_cons px_bl px_nil)))))
  (px_seq (px_ifs (pt_of_cmp op_lt op2_lt (px_var (pv 5)) px_int (nomark _)) (px_one' (px_asg (ps_set (i := 6) sc.nd rfl (.inl rfl) (px_tup (px_cons (px_bin op_addA op2_add (px_var (pv 5)) (px_bin op_pow op2_pow px_int px_int)) (px_cons px_bl px_nil)))))) px_pnil)
  (px_one' (px_ret (px_call c__law_pair_is hr (by decide) (by rfl) tk (px_cons (px_call c_taken hr (by decide) (by rfl) tk (px_cons (px_var (pv 1)) (px_cons (px_var (pv 2)) (px_cons (px_var (pv 4)) px_nil)))) (px_cons (px_var (pv 6)) px_nil))))))))))))))

end
end Dn
set_option Elab.async false
set_option linter.all false
set_option maxRecDepth 100000
set_option maxHeartbeats 2000000
/-! Dn11: how denotations are reckoned (for simp). -/
namespace Dn
open PySem L2
section
variable {α β : Type}
@[simp] theorem R.bind_ok (a : α) (f : α → R β) : (R.ok a).bind f = f a := rfl
@[simp] theorem R.bind_ex (e : Nat) (f : α → R β) : (R.ex e).bind f = .ex e := rfl
@[simp] theorem R.bind_bad (f : α → R β) : (R.bad).bind f = .bad := rfl
@[simp] theorem R.opt_some (a : α) : R.opt (some a) = .ok a := rfl
@[simp] theorem R.opt_none : R.opt (none : Option α) = .bad := rfl
@[simp] theorem R.bind_ite {c : Prop} [Decidable c] (a b : R α) (f : α → R β) : (if c then a else b).bind f = if c then a.bind f else b.bind f := by split <;> rfl
@[simp] theorem R.opt_ite {c : Prop} [Decidable c] (a b : Option α) : R.opt (if c then a else b) = if c then R.opt a else R.opt b := by split <;> rfl
end
/-- what comes behind a statement -/
def SO.go (o : SO) (g : S) : SO := match o with
  | .nx ρ => g ρ
  | o => o
@[simp] theorem SO.go_nx (ρ : Rho) (g : S) : (SO.nx ρ).go g = g ρ := rfl
@[simp] theorem SO.go_ct (ρ : Rho) (g : S) : (SO.ct ρ).go g = .ct ρ := rfl
@[simp] theorem SO.go_bk (ρ : Rho) (g : S) : (SO.bk ρ).go g = .bk ρ := rfl
@[simp] theorem SO.go_rt (d : D) (ρ : Rho) (g : S) : (SO.rt d ρ).go g = .rt d ρ := rfl
@[simp] theorem SO.go_ex (d : Nat) (ρ : Rho) (g : S) : (SO.ex d ρ).go g = .ex d ρ := rfl
@[simp] theorem SO.go_bad (g : S) : (SO.bad).go g = .bad := rfl
@[simp] theorem SO.go_ite {c : Prop} [Decidable c] (a b : SO) (g : S) : (if c then a else b).go g = if c then a.go g else b.go g := by split <;> rfl
/-- what a body leaves -/
def SO.res : SO → R D
  | .rt d _ => .ok d
  | .nx _ => .ok .non
  | .ex e _ => .ex e
  | _ => .bad
@[simp] theorem SO.res_nx (ρ : Rho) : (SO.nx ρ).res = .ok .non := rfl
@[simp] theorem SO.res_rt (d : D) (ρ : Rho) : (SO.rt d ρ).res = .ok d := rfl
@[simp] theorem SO.res_ex (d : Nat) (ρ : Rho) : (SO.ex d ρ).res = .ex d := rfl
@[simp] theorem SO.res_bad : (SO.bad).res = .bad := rfl
@[simp] theorem SO.res_ite {c : Prop} [Decidable c] (a b : SO) : (if c then a else b).res = if c then a.res else b.res := by split <;> rfl
theorem fnD_eq (n N : Nat) (body : S) (ds : List D) (h : ds.length = n) : fnD n N body ds = (body (ds.map Sl.shr ++ List.replicate (N - n) Sl.nil)).res := by
  unfold fnD
  rw [if_pos h]
  cases body (ds.map Sl.shr ++ List.replicate (N - n) Sl.nil) <;> rfl
@[simp] theorem fSeq_eq (f g : S) (ρ : Rho) : fSeq f g ρ = (f ρ).go g := by
  unfold fSeq SO.go
  cases f ρ <;> rfl
@[simp] theorem fPass_eq (ρ : Rho) : fPass ρ = .nx ρ := rfl
@[simp] theorem sCt_eq (ρ : Rho) : sCt ρ = .ct ρ := rfl
@[simp] theorem sRaise_eq (e : Nat) (ρ : Rho) : sRaise e ρ = .ex e ρ := rfl
@[simp] theorem sRetN_eq (ρ : Rho) : sRetN ρ = .rt .non ρ := rfl
@[simp] theorem onE_ok (d : D) (m : Md) (ρ : Rho) (k : D → Md → SO) : onE (.ok (d, m)) ρ k = k d m := rfl
@[simp] theorem onE_ex (e : Nat) (ρ : Rho) (k : D → Md → SO) : onE (.ex e) ρ k = .ex e ρ := rfl
@[simp] theorem onE_bad (ρ : Rho) (k : D → Md → SO) : onE .bad ρ k = .bad := rfl
@[simp] theorem onE_ite {c : Prop} [Decidable c] (a b : R (D × Md)) (ρ : Rho) (k : D → Md → SO) : onE (if c then a else b) ρ k = if c then onE a ρ k else onE b ρ k := by split <;> rfl
@[simp] theorem onT_ok (b : Bool) (ρ : Rho) (k : Bool → SO) : onT (.ok b) ρ k = k b := rfl
@[simp] theorem onT_ex (e : Nat) (ρ : Rho) (k : Bool → SO) : onT (.ex e) ρ k = .ex e ρ := rfl
@[simp] theorem onT_bad (ρ : Rho) (k : Bool → SO) : onT .bad ρ k = .bad := rfl
@[simp] theorem onT_ite {c : Prop} [Decidable c] (a b : R Bool) (ρ : Rho) (k : Bool → SO) : onT (if c then a else b) ρ k = if c then onT a ρ k else onT b ρ k := by split <;> rfl
@[simp] theorem onI_ok (b : List D) (ρ : Rho) (k : List D → SO) : onI (.ok b) ρ k = k b := rfl
@[simp] theorem onI_ex (e : Nat) (ρ : Rho) (k : List D → SO) : onI (.ex e) ρ k = .ex e ρ := rfl
@[simp] theorem onI_bad (ρ : Rho) (k : List D → SO) : onI .bad ρ k = .bad := rfl
@[simp] theorem sIf_eq (t : T) (f g : S) (ρ : Rho) : sIf t f g ρ = onT (t ρ) ρ fun b => if b = true then f ρ else g ρ := rfl
/-- a stored slot -/
def SO.st : Option Rho → SO
  | some ρ => .nx ρ
  | none => .bad
@[simp] theorem SO.st_some (ρ : Rho) : SO.st (some ρ) = .nx ρ := rfl
@[simp] theorem sAsg_eq (i : Nat) (f : E) (ρ : Rho) : sAsg i f ρ = onE (f ρ) ρ fun d m => SO.st (stSl i d (md d m) ρ) := by
  unfold sAsg
  congr 1
theorem stSl_eq (i : Nat) (d : D) (m : Md) (ρ : Rho) : stSl i d m ρ = match ρ[i]? with
  | none => none
  | some (.io _) => none
  | some _ => match m with
    | .fr => if d.imm then some (ρ.set i (.shr d)) else some (ρ.set i (.own d))
    | .sh => some (ρ.set i (.shr d))
    | .tr => none := rfl
/-- the slot i may be stored -/
def free (s : Option Sl) : Prop := match s with
  | none => False
  | some (.io _) => False
  | _ => True
@[simp] theorem free_nil : free (some .nil) := trivial
@[simp] theorem free_shr (d : D) : free (some (.shr d)) := trivial
@[simp] theorem free_own (d : D) : free (some (.own d)) := trivial
theorem stSl_sh {i : Nat} {d : D} {ρ : Rho} (h : free ρ[i]?) : stSl i d .sh ρ = some (ρ.set i (.shr d)) := by
  unfold stSl
  cases e : ρ[i]? with
  | none =>
    rw [e] at h
    exact h.elim
  | some s => cases s <;> first | rfl | (rw [e] at h; exact h.elim)
theorem stSl_fr {i : Nat} {d : D} {ρ : Rho} (h : free ρ[i]?) : stSl i d .fr ρ = some (ρ.set i (if d.imm = true then .shr d else .own d)) := by
  unfold stSl
  cases e : ρ[i]? with
  | none =>
    rw [e] at h
    exact h.elim
  | some s => cases s <;> first | (rw [e] at h; exact h.elim) | (cases d.imm <;> rfl)
theorem md_imm {d : D} {m : Md} (h : d.imm = true) : md d m = .fr := if_pos h
theorem md_not {d : D} {m : Md} (h : d.imm = false) : md d m = m := by unfold md; rw [h]; rfl
@[simp] theorem md_fr (d : D) : md d .fr = .fr := by unfold md; split <;> rfl
@[simp] theorem md_non (m : Md) : md .non m = .fr := rfl
@[simp] theorem md_bl (b : Bool) (m : Md) : md (.bl b) m = .fr := rfl
@[simp] theorem md_int (b : Int) (m : Md) : md (.int b) m = .fr := rfl
@[simp] theorem md_str (b : Str) (m : Md) : md (.str b) m = .fr := rfl
@[simp] theorem md_scr (b : List Int) (m : Md) : md (.scr b) m = .fr := rfl
@[simp] theorem md_ty (b : String) (m : Md) : md (.ty b) m = .fr := rfl
@[simp] theorem md_cls (b : Nat) (m : Md) : md (.cls b) m = .fr := rfl
@[simp] theorem md_lst (b : List D) (m : Md) : md (.lst b) m = m := rfl
@[simp] theorem md_dct (k : List Key) (b : List D) (m : Md) : md (.dct k b) m = m := rfl
@[simp] theorem md_tup (b : List D) (m : Md) : md (.tup b) m = if D.imms b = true then .fr else m := rfl
@[simp] theorem imm_non : D.imm .non = true := rfl
@[simp] theorem imm_bl (b : Bool) : D.imm (.bl b) = true := rfl
@[simp] theorem imm_int (b : Int) : D.imm (.int b) = true := rfl
@[simp] theorem imm_str (b : Str) : D.imm (.str b) = true := rfl
@[simp] theorem imm_scr (b : List Int) : D.imm (.scr b) = true := rfl
@[simp] theorem imm_ty (b : String) : D.imm (.ty b) = true := rfl
@[simp] theorem imm_cls (b : Nat) : D.imm (.cls b) = true := rfl
@[simp] theorem imm_tup (b : List D) : D.imm (.tup b) = D.imms b := rfl
@[simp] theorem imm_lst (b : List D) : D.imm (.lst b) = false := rfl
@[simp] theorem imm_dct (k : List Key) (b : List D) : D.imm (.dct k b) = false := rfl
@[simp] theorem imm_obj (k : Nat) (n : List Str) (b : List D) : D.imm (.obj k n b) = false := rfl
@[simp] theorem imms_nil : D.imms [] = true := rfl
@[simp] theorem imms_cons (d : D) (ds : List D) : D.imms (d :: ds) = (d.imm && D.imms ds) := rfl
@[simp] theorem jn_fr (m : Md) : Md.jn .fr m = m := rfl
@[simp] theorem jn_sh (m : Md) : Md.jn .sh .fr = .sh := rfl
@[simp] theorem jn_sh2 (m : Md) : Md.jn .sh .sh = .sh := rfl
@[simp] theorem jn_tr (m : Md) : Md.jn .tr m = .tr := rfl
@[simp] theorem lo_fr : Md.lo .fr = .sh := rfl
@[simp] theorem lo_sh : Md.lo .sh = .sh := rfl
@[simp] theorem lo_tr : Md.lo .tr = .tr := rfl
@[simp] theorem sRet_eq (f : E) (ρ : Rho) : sRet f ρ = onE (f ρ) ρ fun d m => match md d m with
  | .fr => .rt d ρ
  | _ => .bad := rfl
@[simp] theorem sDrop_eq (f : E) (ρ : Rho) : sDrop f ρ = onE (f ρ) ρ fun _ _ => .nx ρ := rfl
@[simp] theorem sFor_eq (it : EI) (st : Tg) (f : S) (ρ : Rho) : sFor it st f ρ = onI (it ρ) ρ fun ds => forL st f ds ρ := rfl
@[simp] theorem sFz_eq (i : Nat) (f : S) (ρ : Rho) : sFz i f ρ = f (gFz i ρ) := rfl
/-- a slot read -/
def Sl.rd : Option Sl → R (D × Md)
  | some (.shr d) => .ok (d, .sh)
  | some (.own d) => .ok (d, .tr)
  | some (.io d) => .ok (d, .tr)
  | _ => .bad
@[simp] theorem Sl.rd_shr (d : D) : Sl.rd (some (.shr d)) = .ok (d, .sh) := rfl
@[simp] theorem Sl.rd_own (d : D) : Sl.rd (some (.own d)) = .ok (d, .tr) := rfl
@[simp] theorem Sl.rd_io (d : D) : Sl.rd (some (.io d)) = .ok (d, .tr) := rfl
@[simp] theorem eVar_eq (i : Nat) (ρ : Rho) : eVar i ρ = Sl.rd ρ[i]? := by
  unfold eVar Sl.rd
  rfl
def Sl.ret (i : Nat) (ρ : Rho) : Option Sl → SO
  | some (.own d) => .rt d (ρ.set i .nil)
  | some (.shr d) => if d.imm then .rt d ρ else .bad
  | _ => .bad
@[simp] theorem Sl.ret_own (i : Nat) (ρ : Rho) (d : D) : Sl.ret i ρ (some (.own d)) = .rt d (ρ.set i .nil) := rfl
@[simp] theorem Sl.ret_shr (i : Nat) (ρ : Rho) (d : D) : Sl.ret i ρ (some (.shr d)) = if d.imm then .rt d ρ else .bad := rfl
@[simp] theorem sRetV_eq (i : Nat) (ρ : Rho) : sRetV i ρ = Sl.ret i ρ ρ[i]? := rfl
@[simp] theorem eC_eq (d : D) (ρ : Rho) : eC d ρ = .ok (d, .fr) := rfl
@[simp] theorem eBin_eq (op : D → D → Option D) (f g : E) (ρ : Rho) : eBin op f g ρ = (f ρ).bind fun a => (g ρ).bind fun b => (R.opt (op a.1 b.1)).bind fun c => .ok (c, .fr) := rfl
@[simp] theorem eNil_eq (ρ : Rho) : eNil ρ = .ok ([], .fr) := rfl
@[simp] theorem eCons_eq (f : E) (g : EA) (ρ : Rho) : eCons f g ρ = (f ρ).bind fun a => (g ρ).bind fun b => .ok (a.1 :: b.1, Md.jn (md a.1 a.2) b.2) := rfl
@[simp] theorem eTup_eq (g : EA) (ρ : Rho) : eTup g ρ = (g ρ).bind fun a => if a.1.length ≤ 1000000 then .ok (.tup a.1, a.2) else .bad := rfl
@[simp] theorem eLst_eq (g : EA) (ρ : Rho) : eLst g ρ = (g ρ).bind fun a => if a.1.length ≤ 1000000 then .ok (.lst a.1, a.2) else .bad := rfl
@[simp] theorem eFn_eq (f : List D → Option D) (g : EA) (ρ : Rho) : eFn f g ρ = (g ρ).bind fun a => (R.opt (f a.1)).bind fun c => .ok (c, .fr) := rfl
@[simp] theorem eCall_eq (F : List D → R D) (g : EA) (ρ : Rho) : eCall F g ρ = (g ρ).bind fun a => (F a.1).bind fun d => .ok (d, .fr) := rfl
@[simp] theorem eIx_eq (f g : E) (ρ : Rho) : eIx f g ρ = (f ρ).bind fun a => (g ρ).bind fun b => (R.opt (ixD a.1 b.1)).bind fun c => .ok (c, a.2.lo) := rfl
@[simp] theorem eIf_eq (t : T) (f g : E) (ρ : Rho) : eIf t f g ρ = (t ρ).bind fun b => if b = true then f ρ else g ρ := rfl
/-- the truth that data is -/
def D.tb : D → R Bool
  | .bl b => .ok b
  | _ => .bad
@[simp] theorem D.tb_bl (b : Bool) : D.tb (.bl b) = .ok b := rfl
@[simp] theorem tOf_eq (f : E) (ρ : Rho) : tOf f ρ = (f ρ).bind fun a => a.1.tb := by
  unfold tOf
  congr 1
@[simp] theorem tTru_eq (f : E) (ρ : Rho) : tTru f ρ = (f ρ).bind fun a => R.opt (truD a.1) := rfl
@[simp] theorem tAnd_eq (f g : T) (ρ : Rho) : tAnd' f g ρ = (f ρ).bind fun b => if b = true then g ρ else .ok false := rfl
@[simp] theorem tOr_eq (f g : T) (ρ : Rho) : tOr' f g ρ = (f ρ).bind fun b => if b = true then .ok true else g ρ := rfl
@[simp] theorem tNot_eq (f : T) (ρ : Rho) : tNot' f ρ = (f ρ).bind fun b => .ok (!b) := rfl
@[simp] theorem eAndV_eq (f g : E) (ρ : Rho) : eAndV f g ρ = (f ρ).bind fun a => a.1.tb.bind fun b => if b = true then g ρ else .ok (.bl false, .fr) := by
  unfold eAndV
  congr 1
  funext a
  cases a.1 with
  | bl b => cases b <;> rfl
  | _ => rfl
@[simp] theorem eOrV_eq (f g : E) (ρ : Rho) : eOrV f g ρ = (f ρ).bind fun a => a.1.tb.bind fun b => if b = true then .ok (.bl true, .fr) else g ρ := by
  unfold eOrV
  congr 1
  funext a
  cases a.1 with
  | bl b => cases b <;> rfl
  | _ => rfl
@[simp] theorem eNotV_eq (f : E) (ρ : Rho) : eNotV f ρ = (f ρ).bind fun a => a.1.tb.bind fun b => .ok (.bl (!b), .fr) := by
  unfold eNotV
  congr 1
  funext a
  cases a.1 <;> rfl
@[simp] theorem eChain_eq (o o' : D → D → Option D) (f g h : E) (ρ : Rho) : eChain o o' f g h ρ = (f ρ).bind fun a => (g ρ).bind fun b => (R.opt (o a.1 b.1)).bind fun c => c.tb.bind fun t => if t = true then ((h ρ).bind fun d => (R.opt (o' b.1 d.1)).bind fun z => .ok (z, .fr)) else .ok (.bl false, .fr) := by
  unfold eChain
  congr 1
  funext a
  congr 1
  funext b
  congr 1
  funext c
  cases c with
  | bl b => cases b <;> rfl
  | _ => rfl
/-! operators -/
@[simp] theorem oAdd_int (i j : Int) : oAdd (.int i) (.int j) = some (.int (i + j)) := rfl
@[simp] theorem oAdd_str (x y : Str) : oAdd (.str x) (.str y) = if x.length + y.length ≤ 1000000 then some (.str (x ++ y)) else none := rfl
@[simp] theorem oAdd_lst (xs ys : List D) : oAdd (.lst xs) (.lst ys) = if D.imms xs = true ∧ D.imms ys = true ∧ xs.length + ys.length ≤ 1000000 then some (.lst (xs ++ ys)) else none := rfl
@[simp] theorem oAdd_tup (xs ys : List D) : oAdd (.tup xs) (.tup ys) = if D.imms xs = true ∧ D.imms ys = true ∧ xs.isEmpty = false ∧ xs.length + ys.length ≤ 1000000 then some (.tup (xs ++ ys)) else none := rfl
@[simp] theorem oSub_int (i j : Int) : oSub (.int i) (.int j) = some (.int (i - j)) := rfl
@[simp] theorem oMul_int (i j : Int) : oMulI (.int i) (.int j) = if isSm i ∨ isSm j then some (.int (i * j)) else none := rfl
@[simp] theorem oDiv_int (i j : Int) : oDiv (.int i) (.int j) = if 0 < j ∧ j < 2 ^ 200 then some (.int (i / j)) else none := rfl
@[simp] theorem oMod_int (i j : Int) : oMod (.int i) (.int j) = if 0 < j then some (.int (i % j)) else none := rfl
@[simp] theorem oPow_int (i j : Int) : oPow (.int i) (.int j) = if 0 ≤ j ∧ j ≤ 1000 ∧ isSm i then some (.int (i ^ j.toNat)) else none := rfl
@[simp] theorem oShl_int (i j : Int) : oShl (.int i) (.int j) = if 0 ≤ j ∧ j ≤ 1000 ∧ isSm i then some (.int (i * 2 ^ j.toNat)) else none := rfl
@[simp] theorem oShr_int (i j : Int) : oShr (.int i) (.int j) = if 0 ≤ j then some (.int (i / 2 ^ j.toNat)) else none := rfl
@[simp] theorem oAnd_int (i j : Int) : oAnd (.int i) (.int j) = some (.int (Builtin.bitAnd i j)) := rfl
@[simp] theorem oOr_int (i j : Int) : oOr (.int i) (.int j) = some (.int (Builtin.bitOr i j)) := rfl
@[simp] theorem oXor_int (i j : Int) : oXor (.int i) (.int j) = some (.int (Builtin.bitXor i j)) := rfl
@[simp] theorem oLt_int (i j : Int) : oLt (.int i) (.int j) = some (.bl (decide (i < j))) := rfl
@[simp] theorem oLe_int (i j : Int) : oLe (.int i) (.int j) = some (.bl (decide (i ≤ j))) := rfl
@[simp] theorem oGt_int (i j : Int) : oGt (.int i) (.int j) = some (.bl (decide (j < i))) := rfl
@[simp] theorem oGe_int (i j : Int) : oGe (.int i) (.int j) = some (.bl (decide (j ≤ i))) := rfl
@[simp] theorem oEq_eq (a b : D) : oEq a b = if a.pl 9 = true ∧ b.pl 9 = true then some (.bl (a.eqv b)) else none := rfl
@[simp] theorem oNe_eq (a b : D) : oNe a b = if a.pl 9 = true ∧ b.pl 9 = true then some (.bl (!a.eqv b)) else none := rfl
@[simp] theorem oIs_eq (a b : D) : oIs a b = if b.isN then some (.bl a.isN) else none := rfl
@[simp] theorem oIsn_eq (a b : D) : oIsn a b = if b.isN then some (.bl (!a.isN)) else none := rfl
@[simp] theorem isN_non' : D.isN .non = true := rfl
@[simp] theorem isN_bl (b : Bool) : D.isN (.bl b) = false := rfl
@[simp] theorem isN_int (b : Int) : D.isN (.int b) = false := rfl
@[simp] theorem isN_str (b : Str) : D.isN (.str b) = false := rfl
@[simp] theorem isN_tup (b : List D) : D.isN (.tup b) = false := rfl
@[simp] theorem isN_lst (b : List D) : D.isN (.lst b) = false := rfl
@[simp] theorem pl_non (n : Nat) : D.pl n .non = true := by cases n <;> rfl
@[simp] theorem pl_bl (n : Nat) (b : Bool) : D.pl n (.bl b) = true := by cases n <;> rfl
@[simp] theorem pl_int (n : Nat) (b : Int) : D.pl n (.int b) = true := by cases n <;> rfl
@[simp] theorem pl_str (n : Nat) (b : Str) : D.pl n (.str b) = true := by cases n <;> rfl
@[simp] theorem pl_tup (n : Nat) (b : List D) : D.pl (n + 1) (.tup b) = D.pls n b := rfl
@[simp] theorem pl_lst (n : Nat) (b : List D) : D.pl (n + 1) (.lst b) = D.pls n b := rfl
@[simp] theorem pl_tup9 (b : List D) : D.pl 9 (.tup b) = D.pls 8 b := rfl
@[simp] theorem pl_lst9 (b : List D) : D.pl 9 (.lst b) = D.pls 8 b := rfl
@[simp] theorem pl_tup8 (b : List D) : D.pl 8 (.tup b) = D.pls 7 b := rfl
@[simp] theorem pl_lst8 (b : List D) : D.pl 8 (.lst b) = D.pls 7 b := rfl
@[simp] theorem pl_tup7 (b : List D) : D.pl 7 (.tup b) = D.pls 6 b := rfl
@[simp] theorem pl_lst7 (b : List D) : D.pl 7 (.lst b) = D.pls 6 b := rfl
@[simp] theorem pls_nil (n : Nat) : D.pls n [] = true := by cases n <;> rfl
@[simp] theorem pls_cons (n : Nat) (d : D) (ds : List D) : D.pls n (d :: ds) = (d.pl n && D.pls n ds) := by cases n <;> rfl
@[simp] theorem eqv_int (i j : Int) : D.eqv (.int i) (.int j) = (i == j) := rfl
@[simp] theorem eqv_bl (i j : Bool) : D.eqv (.bl i) (.bl j) = (i == j) := rfl
@[simp] theorem eqv_str (i j : Str) : D.eqv (.str i) (.str j) = (i == j) := rfl
@[simp] theorem eqv_non : D.eqv .non .non = true := rfl
@[simp] theorem eqv_tup (i j : List D) : D.eqv (.tup i) (.tup j) = D.eqvs i j := rfl
@[simp] theorem eqv_lst (i j : List D) : D.eqv (.lst i) (.lst j) = D.eqvs i j := rfl
@[simp] theorem eqvs_nil : D.eqvs [] [] = true := rfl
@[simp] theorem eqvs_cons (a b : D) (x y : List D) : D.eqvs (a :: x) (b :: y) = (D.eqv a b && D.eqvs x y) := rfl
@[simp] theorem eqvs_nc (b : D) (y : List D) : D.eqvs [] (b :: y) = false := rfl
@[simp] theorem eqvs_cn (b : D) (y : List D) : D.eqvs (b :: y) [] = false := rfl
@[simp] theorem tru_bl (b : Bool) : truD (.bl b) = some b := rfl
@[simp] theorem tru_int (b : Int) : truD (.int b) = some (b != 0) := rfl
@[simp] theorem tru_non : truD .non = some false := rfl
@[simp] theorem tru_tup (b : List D) : truD (.tup b) = some (!b.isEmpty) := rfl
@[simp] theorem tru_lst (b : List D) : truD (.lst b) = some (!b.isEmpty) := rfl
@[simp] theorem tru_str (s : Str) : truD (.str s) = if s.length ≤ 1000000 then some (s.length != 0) else none := rfl
@[simp] theorem ix_lst (xs : List D) (i : Int) : ixD (.lst xs) (.int i) = atI xs i := rfl
@[simp] theorem ix_tup' (xs : List D) (i : Int) : ixD (.tup xs) (.int i) = atI xs i := rfl
@[simp] theorem ix_scr (xs : List Int) (i : Int) : ixD (.scr xs) (.int i) = (atI xs i).map .int := rfl
@[simp] theorem ix_dct (ks : List Key) (ds : List D) (k : D) : ixD (.dct ks ds) k = k.key.bind fun k => lkD ks ds k := rfl
@[simp] theorem atI_0 {α : Type} (a : α) (xs : List α) : atI (a :: xs) 0 = some a := by
  unfold atI ixN
  rw [if_pos (Int.le_refl 0), if_pos (by rw [List.length_cons]; omega)]
  rfl
@[simp] theorem atI_1 {α : Type} (a0 a1 : α) (xs : List α) : atI (a0 :: a1 :: xs) 1 = some a1 := by
  unfold atI ixN
  rw [if_pos (by decide), if_pos (by simp only [List.length_cons]; omega)]
  rfl
@[simp] theorem atI_2 {α : Type} (a0 a1 a2 : α) (xs : List α) : atI (a0 :: a1 :: a2 :: xs) 2 = some a2 := by
  unfold atI ixN
  rw [if_pos (by decide), if_pos (by simp only [List.length_cons]; omega)]
  rfl
@[simp] theorem atI_3 {α : Type} (a0 a1 a2 a3 : α) (xs : List α) : atI (a0 :: a1 :: a2 :: a3 :: xs) 3 = some a3 := by
  unfold atI ixN
  rw [if_pos (by decide), if_pos (by simp only [List.length_cons]; omega)]
  rfl
@[simp] theorem atI_4 {α : Type} (a0 a1 a2 a3 a4 : α) (xs : List α) : atI (a0 :: a1 :: a2 :: a3 :: a4 :: xs) 4 = some a4 := by
  unfold atI ixN
  rw [if_pos (by decide), if_pos (by simp only [List.length_cons]; omega)]
  rfl
@[simp] theorem atI_5 {α : Type} (a0 a1 a2 a3 a4 a5 : α) (xs : List α) : atI (a0 :: a1 :: a2 :: a3 :: a4 :: a5 :: xs) 5 = some a5 := by
  unfold atI ixN
  rw [if_pos (by decide), if_pos (by simp only [List.length_cons]; omega)]
  rfl
@[simp] theorem atI_6 {α : Type} (a0 a1 a2 a3 a4 a5 a6 : α) (xs : List α) : atI (a0 :: a1 :: a2 :: a3 :: a4 :: a5 :: a6 :: xs) 6 = some a6 := by
  unfold atI ixN
  rw [if_pos (by decide), if_pos (by simp only [List.length_cons]; omega)]
  rfl
@[simp] theorem atI_7 {α : Type} (a0 a1 a2 a3 a4 a5 a6 a7 : α) (xs : List α) : atI (a0 :: a1 :: a2 :: a3 :: a4 :: a5 :: a6 :: a7 :: xs) 7 = some a7 := by
  unfold atI ixN
  rw [if_pos (by decide), if_pos (by simp only [List.length_cons]; omega)]
  rfl
@[simp] theorem atI_8 {α : Type} (a0 a1 a2 a3 a4 a5 a6 a7 a8 : α) (xs : List α) : atI (a0 :: a1 :: a2 :: a3 :: a4 :: a5 :: a6 :: a7 :: a8 :: xs) 8 = some a8 := by
  unfold atI ixN
  rw [if_pos (by decide), if_pos (by simp only [List.length_cons]; omega)]
  rfl
@[simp] theorem atI_9 {α : Type} (a0 a1 a2 a3 a4 a5 a6 a7 a8 a9 : α) (xs : List α) : atI (a0 :: a1 :: a2 :: a3 :: a4 :: a5 :: a6 :: a7 :: a8 :: a9 :: xs) 9 = some a9 := by
  unfold atI ixN
  rw [if_pos (by decide), if_pos (by simp only [List.length_cons]; omega)]
  rfl
@[simp] theorem atI_10 {α : Type} (a0 a1 a2 a3 a4 a5 a6 a7 a8 a9 a10 : α) (xs : List α) : atI (a0 :: a1 :: a2 :: a3 :: a4 :: a5 :: a6 :: a7 :: a8 :: a9 :: a10 :: xs) 10 = some a10 := by
  unfold atI ixN
  rw [if_pos (by decide), if_pos (by simp only [List.length_cons]; omega)]
  rfl
@[simp] theorem atI_11 {α : Type} (a0 a1 a2 a3 a4 a5 a6 a7 a8 a9 a10 a11 : α) (xs : List α) : atI (a0 :: a1 :: a2 :: a3 :: a4 :: a5 :: a6 :: a7 :: a8 :: a9 :: a10 :: a11 :: xs) 11 = some a11 := by
  unfold atI ixN
  rw [if_pos (by decide), if_pos (by simp only [List.length_cons]; omega)]
  rfl
@[simp] theorem atI_12 {α : Type} (a0 a1 a2 a3 a4 a5 a6 a7 a8 a9 a10 a11 a12 : α) (xs : List α) : atI (a0 :: a1 :: a2 :: a3 :: a4 :: a5 :: a6 :: a7 :: a8 :: a9 :: a10 :: a11 :: a12 :: xs) 12 = some a12 := by
  unfold atI ixN
  rw [if_pos (by decide), if_pos (by simp only [List.length_cons]; omega)]
  rfl
theorem atI_get' {α : Type} {xs : List α} {i : Int} (h0 : 0 ≤ i) (h1 : i < xs.length) : atI xs i = xs[i.toNat]? := by
  unfold atI ixN
  rw [if_pos h0, if_pos h1]
  rfl
theorem atI_mem {α : Type} {xs : List α} {i : Int} (h0 : 0 ≤ i) (h1 : i < xs.length) : ∃ x ∈ xs, atI xs i = some x := by
  rw [atI_get' h0 h1]
  have h : i.toNat < xs.length := by omega
  exact ⟨xs[i.toNat], List.getElem_mem h, List.getElem?_eq_getElem h⟩
@[simp] theorem oLen_lst (xs : List D) : oLen [.lst xs] = some (.int xs.length) := rfl
@[simp] theorem oLen_tup (xs : List D) : oLen [.tup xs] = some (.int xs.length) := rfl
@[simp] theorem oLen_scr (xs : List Int) : oLen [.scr xs] = some (.int xs.length) := rfl
@[simp] theorem oLen_str (x : Str) : oLen [.str x] = if x.length ≤ 1000000 then some (.int x.length) else none := rfl
@[simp] theorem oLen_dct (xs : List Key) (ds : List D) : oLen [.dct xs ds] = some (.int xs.length) := rfl
@[simp] theorem oInt_int (i : Int) : oInt [.int i] = some (.int i) := rfl
@[simp] theorem oInt_bl (b : Bool) : oInt [.bl b] = some (.int (if b then 1 else 0)) := rfl
@[simp] theorem isi_int_int (i : Int) : oIsi [.int i, .ty "int"] = some (.bl true) := rfl
@[simp] theorem isi_int_bool (i : Int) : oIsi [.int i, .ty "bool"] = some (.bl false) := rfl
@[simp] theorem isi_int_str (i : Int) : oIsi [.int i, .ty "str"] = some (.bl false) := rfl
@[simp] theorem isi_int_tup (i : Int) : oIsi [.int i, .ty "tuple"] = some (.bl false) := rfl
@[simp] theorem isi_int_lst (i : Int) : oIsi [.int i, .ty "list"] = some (.bl false) := rfl
@[simp] theorem isi_bl_int (i : Bool) : oIsi [.bl i, .ty "int"] = some (.bl true) := rfl
@[simp] theorem isi_bl_bool (i : Bool) : oIsi [.bl i, .ty "bool"] = some (.bl true) := rfl
@[simp] theorem isi_bl_str (i : Bool) : oIsi [.bl i, .ty "str"] = some (.bl false) := rfl
@[simp] theorem isi_bl_tup (i : Bool) : oIsi [.bl i, .ty "tuple"] = some (.bl false) := rfl
@[simp] theorem isi_bl_lst (i : Bool) : oIsi [.bl i, .ty "list"] = some (.bl false) := rfl
@[simp] theorem isi_str_int (i : Str) : oIsi [.str i, .ty "int"] = some (.bl false) := rfl
@[simp] theorem isi_str_bool (i : Str) : oIsi [.str i, .ty "bool"] = some (.bl false) := rfl
@[simp] theorem isi_str_str (i : Str) : oIsi [.str i, .ty "str"] = some (.bl true) := rfl
@[simp] theorem isi_str_tup (i : Str) : oIsi [.str i, .ty "tuple"] = some (.bl false) := rfl
@[simp] theorem isi_str_lst (i : Str) : oIsi [.str i, .ty "list"] = some (.bl false) := rfl
@[simp] theorem isi_tup_int (i : List D) : oIsi [.tup i, .ty "int"] = some (.bl false) := rfl
@[simp] theorem isi_tup_bool (i : List D) : oIsi [.tup i, .ty "bool"] = some (.bl false) := rfl
@[simp] theorem isi_tup_str (i : List D) : oIsi [.tup i, .ty "str"] = some (.bl false) := rfl
@[simp] theorem isi_tup_tup (i : List D) : oIsi [.tup i, .ty "tuple"] = some (.bl true) := rfl
@[simp] theorem isi_tup_lst (i : List D) : oIsi [.tup i, .ty "list"] = some (.bl false) := rfl
@[simp] theorem isi_lst_int (i : List D) : oIsi [.lst i, .ty "int"] = some (.bl false) := rfl
@[simp] theorem isi_lst_bool (i : List D) : oIsi [.lst i, .ty "bool"] = some (.bl false) := rfl
@[simp] theorem isi_lst_str (i : List D) : oIsi [.lst i, .ty "str"] = some (.bl false) := rfl
@[simp] theorem isi_lst_tup (i : List D) : oIsi [.lst i, .ty "tuple"] = some (.bl false) := rfl
@[simp] theorem isi_lst_lst (i : List D) : oIsi [.lst i, .ty "list"] = some (.bl true) := rfl
@[simp] theorem isi_non_int : oIsi [.non, .ty "int"] = some (.bl false) := rfl
@[simp] theorem isi_non_bool : oIsi [.non, .ty "bool"] = some (.bl false) := rfl
@[simp] theorem isi_non_str : oIsi [.non, .ty "str"] = some (.bl false) := rfl
@[simp] theorem isi_non_tup : oIsi [.non, .ty "tuple"] = some (.bl false) := rfl
@[simp] theorem isi_non_lst : oIsi [.non, .ty "list"] = some (.bl false) := rfl
@[simp] theorem itBy_eq (f : List D → Option (List D)) (g : EA) (ρ : Rho) : itBy f g ρ = (g ρ).bind fun a => R.opt (f a.1) := rfl
@[simp] theorem rng1_int (j : Int) : rng1 [.int j] = if -1000000000 ≤ j ∧ j ≤ 1000000000 then some (rngD 0 j.toNat) else none := rfl
@[simp] theorem rng2_int (i j : Int) : rng2 [.int i, .int j] = if -1000000000 ≤ i ∧ i ≤ 1000000000 ∧ -1000000000 ≤ j ∧ j ≤ 1000000000 then some (rngD i (j - i).toNat) else none := rfl
theorem rngD_len (lo : Int) (n : Nat) : (rngD lo n).length = n := by unfold rngD; rw [List.length_map, List.length_range]
@[simp] theorem forL_nil (st : Tg) (f : S) (ρ : Rho) : forL st f [] ρ = .nx ρ := rfl
/-- a loop whose every turn goes on: an invariant of the state -/
theorem forL_inv {st : Tg} {f : S} (P : Nat → Rho → Prop) {ds : List D} {ρ : Rho} (h0 : P 0 ρ)
    (hs : ∀ i d ρ, ds[i]? = some d → P i ρ → ∃ ρ1, st d ρ = some ρ1 ∧ ∃ ρ2, (f ρ1 = .nx ρ2 ∨ f ρ1 = .ct ρ2) ∧ P (i + 1) ρ2) : ∃ ρ', forL st f ds ρ = .nx ρ' ∧ P ds.length ρ' := by
  suffices h : ∀ (es : List D) (k : Nat) (ρ : Rho), (∀ i, es[i]? = ds[k + i]?) → P k ρ → ∃ ρ', forL st f es ρ = .nx ρ' ∧ P (k + es.length) ρ' by
    have := h ds 0 ρ (fun i => by rw [Nat.zero_add]) h0
    rw [Nat.zero_add] at this
    exact this
  intro es
  induction es with
  | nil => exact fun k ρ _ p => ⟨ρ, rfl, p⟩
  | cons e es ih =>
    intro k ρ he p
    obtain ⟨ρ1, h1, ρ2, h2, p2⟩ := hs k e ρ (by have := he 0; simpa using this.symm) p
    obtain ⟨ρ', h3, p3⟩ := ih (k + 1) ρ2 (fun i => by have := he (i + 1); simp at this; rw [this]; congr 1; omega) p2
    refine ⟨ρ', ?_, ?_⟩
    · unfold forL
      rw [h1]
      rcases h2 with h2 | h2 <;> (simp only [h2]; exact h3)
    · rw [List.length_cons]
      have e1 : k + (es.length + 1) = k + 1 + es.length := by omega
      rw [e1]
      exact p3
@[simp] theorem isSm_eq (i : Int) : isSm i = (-18446744073709551616 < i ∧ i < 18446744073709551616) := rfl
@[simp] theorem tgN_eq (i : Nat) (d : D) (ρ : Rho) : tgN i d ρ = stSl i d .sh ρ := rfl
theorem eleven {k : Int} (h0 : 0 ≤ k) (h1 : k < 11) : k = 0 ∨ k = 1 ∨ k = 2 ∨ k = 3 ∨ k = 4 ∨ k = 5 ∨ k = 6 ∨ k = 7 ∨ k = 8 ∨ k = 9 ∨ k = 10 := by omega
end Dn
set_option Elab.async false
set_option linter.all false
set_option maxRecDepth 100000
set_option maxHeartbeats 1000000
namespace Dn
open PySem L2
theorem whole_eq (a : Int) : F__law_whole [.int a] = .ok (.bl true) := rfl
theorem pair_eq (a b : Int) (c d : Bool) : F__law_pair_is [.tup [.int a, .bl c], .tup [.int b, .bl d]] = .ok (.bl (a == b && c == d)) := by
  unfold F__law_pair_is B__law_pair_is
  simp [fnD_eq, whole_eq]
  by_cases h : a = b <;> simp [h]
theorem cell_eq (ns : List Int) (k : Int) (hk : 0 ≤ k) : ∃ c, F__law_cell_at [.scr ns, .int k] = .ok (.int c) := by
  unfold F__law_cell_at B__law_cell_at
  simp [fnD_eq]
  by_cases h : k < ns.length
  · obtain ⟨x, _, e⟩ := atI_mem (xs := ns) (i := k) (by omega) (by omega)
    exact ⟨x, by simp [h, e]⟩
  · exact ⟨0, by simp [h]⟩
theorem mixed_eq (c k m : Int) (hk : 0 ≤ k) (hm : 0 < m) : ∃ r, F__law_mixed [.int c, .int k, .int m] = .ok (.int r) ∧ 0 ≤ r ∧ r < m := by
  unfold F__law_mixed B__law_mixed
  simp [fnD_eq, stSl_fr, stSl_sh]
  have h0 := Int.emod_nonneg k (show (11 : Int) ≠ 0 by decide)
  have h1 := Int.emod_lt_of_pos k (show (0 : Int) < 11 by decide)
  have key : ∃ n : Int, atI [D.int 99991, D.int 99989, D.int 99971, D.int 99961, D.int 99929, D.int 99923, D.int 99907, D.int 99901, D.int 99881, D.int 99877, D.int 99871] (k % 11) = some (.int n) ∧ 0 < n ∧ n < 100000 := by
    rcases eleven h0 h1 with h | h | h | h | h | h | h | h | h | h | h <;> rw [h] <;> simp
  obtain ⟨n, e, n0, n1⟩ := key
  rw [e]
  simp [n0, stSl_fr, stSl_sh]
  have q0 := Int.emod_nonneg ((c + 7 * k) * 48271) (show n ≠ 0 by omega)
  have q1 := Int.emod_lt_of_pos ((c + 7 * k) * 48271) n0
  generalize (c + 7 * k) * 48271 % n = q at q0 q1
  have s1 : -18446744073709551616 < q ∧ q < 18446744073709551616 := by omega
  simp [s1, hm]
  exact ⟨Int.emod_nonneg _ (by omega), Int.emod_lt_of_pos _ hm⟩
theorem pow_loop (a b c : Sl) (ds : List D) : ∀ (s : Sl) (p : Int), free (some s) → ∃ s', forL (tgN 4) (sAsg 3 (eBin oMulI (eC (.int 2)) (eVar 3))) ds [a, b, c, .shr (.int p), s] = .nx [a, b, c, .shr (.int (p * 2 ^ ds.length)), s'] := by
  induction ds with
  | nil => exact fun s p _ => ⟨s, by simp⟩
  | cons d ds ih =>
    intro s p hs
    obtain ⟨s', h⟩ := ih (.shr d) (2 * p) trivial
    refine ⟨s', ?_⟩
    simp [forL, stSl_sh, stSl_fr, hs, h]
    rw [Int.pow_succ, Int.mul_comm 2 p, Int.mul_assoc, Int.mul_comm 2]
theorem pow_lt {n m : Nat} (h : n ≤ m) : (1 : Int) ≤ 2 ^ n ∧ (2 : Int) ^ n ≤ 2 ^ m := by
  have h1 : (1 : Nat) ≤ 2 ^ n := Nat.one_le_two_pow
  have h2 : (2 : Nat) ^ n ≤ 2 ^ m := Nat.pow_le_pow_right (by decide) h
  exact ⟨by exact_mod_cast h1, by exact_mod_cast h2⟩
/-- the outcome is a number of which P holds -/
def IsI (x : R D) (P : Int → Prop) : Prop := match x with
  | .ok (.int r) => P r
  | _ => False
@[simp] theorem IsI_ok (r : Int) (P : Int → Prop) : IsI (.ok (.int r)) P = P r := rfl
theorem IsI.get {x : R D} {P : Int → Prop} (h : IsI x P) : ∃ r, x = .ok (.int r) ∧ P r := by
  unfold IsI at h
  split at h
  · exact ⟨_, rfl, h⟩
  · exact h.elim
theorem e31 : (2 : Int) ^ 31 = 2147483648 := by simp
theorem word_eq (c k : Int) (hk : 0 ≤ k) : ∃ r, F__law_word_by [.int c, .int k] = .ok (.int r) ∧ 0 ≤ r ∧ r < 4294967296 := by
  obtain ⟨way, hw, w0, w1⟩ := mixed_eq c k 9 hk (by decide)
  obtain ⟨r8, hr8, r80, r81⟩ := mixed_eq c (k + 1) 8 (by omega) (by decide)
  obtain ⟨r32, hr32, r320, r321⟩ := mixed_eq c (k + 2) 32 (by omega) (by decide)
  obtain ⟨ra, hra, ra0, ra1⟩ := mixed_eq c (k + 3) 65536 (by omega) (by decide)
  obtain ⟨rb, hrb, rb0, rb1⟩ := mixed_eq c (k + 5) 65536 (by omega) (by decide)
  have b32 : -1000000000 ≤ r32 ∧ r32 ≤ 1000000000 := by omega
  obtain ⟨s', hl⟩ := pow_loop (.shr (.int c)) (.shr (.int k)) (.shr (.int way)) (rngD 0 r32.toNat) .nil 1 trivial
  rw [rngD_len, Int.one_mul] at hl
  obtain ⟨p1, p2⟩ := pow_lt (n := r32.toNat) (m := 31) (by omega)
  rw [e31] at p2
  generalize (2 : Int) ^ r32.toNat = pw at hl p1 p2
  have sa : -18446744073709551616 < pw ∧ pw < 18446744073709551616 := by omega
  apply IsI.get (P := fun r => 0 ≤ r ∧ r < 4294967296)
  have w2 : way = 0 ∨ way = 1 ∨ way = 2 ∨ way = 3 ∨ way = 4 ∨ way = 5 ∨ way = 6 ∨ way = 7 ∨ way = 8 := by omega
  have r8' : r8 = 0 ∨ r8 = 1 ∨ r8 = 2 ∨ r8 = 3 ∨ r8 = 4 ∨ r8 = 5 ∨ r8 = 6 ∨ r8 = 7 := by omega
  unfold F__law_word_by B__law_word_by
  rw [fnD_eq 2 5 _ [.int c, .int k] rfl]
  rcases w2 with h | h | h | h | h | h | h | h | h <;> subst h
  · simp -implicitDefEqProofs [stSl_fr, stSl_sh, hw, hr8]
    rcases r8' with h | h | h | h | h | h | h | h <;> subst h <;> simp
  all_goals simp -implicitDefEqProofs [stSl_fr, stSl_sh, hw, hr32, hra, hrb, b32, hl, sa]
  all_goals try rw [if_pos (by omega)]
  all_goals try rw [IsI_ok]
  all_goals try refine ⟨Int.emod_nonneg _ (by omega), ?_⟩
  all_goals try have := Int.emod_lt_of_pos (ra * 65536 + rb) (show 0 < pw * 2 by omega)
  all_goals omega
theorem taken_eq (a b : Int) (c : Bool) : F_taken [.int a, .int b, .bl c] = .ok (.tup [.int (Builtin.bitAnd (a - b - if c then 1 else 0) 4294967295), .bl (decide (a - b - (if c then 1 else 0) < 0))]) := by
  unfold F_taken B_taken
  rw [fnD_eq 3 4 _ _ rfl]
  simp -implicitDefEqProofs [stSl_fr, stSl_sh, k_WORD]
theorem math (ns : List Int) (_h : ns.length ≤ 63) : F_law [.scr ns] = .ok (.bl true) := by
  obtain ⟨c0, h0⟩ := cell_eq ns 0 (by decide)
  obtain ⟨c1, h1⟩ := cell_eq ns 1 (by decide)
  obtain ⟨c2, h2⟩ := cell_eq ns 2 (by decide)
  obtain ⟨a, ha, a0, a1⟩ := word_eq c0 0 (by decide)
  obtain ⟨b, hb, b0, b1⟩ := word_eq c1 1 (by decide)
  unfold F_law B_law
  rw [fnD_eq 1 7 _ _ rfl]
  have q0 := Int.emod_nonneg (a + c2 / 8 % 3 - 1) (show (4294967296 : Int) ≠ 0 by decide)
  have q1 := Int.emod_lt_of_pos (a + c2 / 8 % 3 - 1) (show (0 : Int) < 4294967296 by decide)
  generalize hb' : (a + c2 / 8 % 3 - 1) % 4294967296 = b' at q0 q1
  have fin : ∀ b : Int, 0 ≤ b → b < 4294967296 → ∀ c : Bool, ∀ x : Int, (a - b - if c then 1 else 0) = x →
     (x < 0 → x % 4294967296 = x + 4294967296) ∧ (¬ x < 0 → x % 4294967296 = x) := by
    intro b b0 b1 c x hx
    have hx0 : -4294967296 ≤ x ∧ x < 4294967296 := by subst hx; cases c <;> simp <;> omega
    constructor <;> intro h <;> omega
  by_cases q : c2 / 2 % 4 = 1
  · by_cases hc : c2 % 2 = 1
    · have := fin b' q0 q1 true _ rfl
      by_cases hs : a - b' - 1 < 0 <;> simp [hs] at this <;>
      simp -implicitDefEqProofs [stSl_fr, stSl_sh, h0, h1, h2, ha, hb, q, hb', hc, hs, taken_eq, pair_eq, PyProof.Rows.bitAnd_m32, this]
    · have := fin b' q0 q1 false _ rfl
      by_cases hs : a - b' < 0 <;> simp [hs] at this <;>
      simp -implicitDefEqProofs [stSl_fr, stSl_sh, h0, h1, h2, ha, hb, q, hb', hc, hs, taken_eq, pair_eq, PyProof.Rows.bitAnd_m32, this]
  · by_cases hc : c2 % 2 = 1
    · have := fin b b0 b1 true _ rfl
      by_cases hs : a - b - 1 < 0 <;> simp [hs] at this <;>
      simp -implicitDefEqProofs [stSl_fr, stSl_sh, h0, h1, h2, ha, hb, q, hb', hc, hs, taken_eq, pair_eq, PyProof.Rows.bitAnd_m32, this]
    · have := fin b b0 b1 false _ rfl
      by_cases hs : a - b < 0 <;> simp [hs] at this <;>
      simp -implicitDefEqProofs [stSl_fr, stSl_sh, h0, h1, h2, ha, hb, q, hb', hc, hs, taken_eq, pair_eq, PyProof.Rows.bitAnd_m32, this]
end Dn
namespace Dn
open PySem L2
theorem law_all {P : Program} {w : World} {mg : Str → Option Value} {G : Cts} (math : ∀ ns : List Int, ns.length ≤ 63 → F_law [.scr ns] = .ok (.bl true)) (T : Txt G mg) (A_taken : FnAt G mg "taken" s_taken) (A__law_cell_at : FnAt G mg "_law_cell_at" s__law_cell_at) (A__law_whole : FnAt G mg "_law_whole" s__law_whole) (A__law_mixed : FnAt G mg "_law_mixed" s__law_mixed) (A__law_word_by : FnAt G mg "_law_word_by" s__law_word_by) (A__law_power : FnAt G mg "_law_power" s__law_power) (A__law_pair_is : FnAt G mg "_law_pair_is" s__law_pair_is) (A_law : FnAt G mg "law" s_law) {fa : Addr} (hfa : mg "law" = some (.ref fa)) :
    ∃ fd : FuncData, (∀ (s : Shared) (v : Value), BindsTo s fd ⟨[v], []⟩ [("_law_script", v)]) ∧ ∀ base : Heap, FnOk P w G.K mg base (L2.CX P w) 3 fa fd ["_law_script"] (spLaw G.K) := by
  refine law_fd A_law hfa (fun kV doc pm an cdv ct s v => .of_eq rfl) math fun base => ?_
  have c_taken : Cal G P w mg base 1 "taken" ["one", "other", "borrow"] F_taken := c_taken T A_taken 
  have c__law_cell_at : Cal G P w mg base 1 "_law_cell_at" ["_law_script", "_law_k"] F__law_cell_at := c__law_cell_at T A__law_cell_at 
  have c__law_whole : Cal G P w mg base 1 "_law_whole" ["_law_found"] F__law_whole := c__law_whole T A__law_whole 
  have c__law_mixed : Cal G P w mg base 1 "_law_mixed" ["_law_cell", "_law_k", "_law_many"] F__law_mixed := c__law_mixed T A__law_mixed 
  have c__law_word_by : Cal G P w mg base 2 "_law_word_by" ["_law_cell", "_law_k"] F__law_word_by := c__law_word_by T A__law_word_by c__law_mixed
  have c__law_power : Cal G P w mg base 1 "_law_power" ["_law_many"] F__law_power := c__law_power T A__law_power 
  have c__law_pair_is : Cal G P w mg base 2 "_law_pair_is" ["_law_found", "_law_due"] F__law_pair_is := c__law_pair_is T A__law_pair_is c__law_whole
  exact c_law T A_law c__law_cell_at c__law_pair_is c__law_word_by c_taken
end Dn
open PySem PySem.W PyProof.Rows
set_option maxRecDepth 100000 in
set_option maxHeartbeats 0 in
theorem PySem.Challenge.cw_markrun_k02_taken_holds : PySem.Challenge.rw_markrun_k02_taken.Holds := by
  w_on; o_law; k_head; (case hw => w_witness2)
  k_fill
  refine Dn.walk (l := PySem.Challenge.rw_markrun_k02_taken) (k := 3) (x := "_law_script") rfl rfl ⟨rfl, by decide, by decide⟩ (fun w h Y => PySem.W.kIn_of Y) ?F
  case F =>
    intro w mg fa h KX G hmg
    have T : Dn.Txt (Dn.GK KX fun _ => 0) mg := by
      refine' ⟨PySem.W.mg_none_of KX G ?b_bool, PySem.W.mg_none_of KX G ?b_int, PySem.W.mg_none_of KX G ?b_isinstance, PySem.W.mg_none_of KX G ?b_len, PySem.W.mg_none_of KX G ?b_range, PySem.W.mg_none_of KX G ?b_tuple, Dn.Cst.int (PySem.W.mg_of KX G ?c_WORD)⟩
      (case b_bool => k_is)
      (case b_int => k_is)
      (case b_isinstance => k_is)
      (case b_len => k_is)
      (case b_range => k_is)
      (case b_tuple => k_is)
      (case c_WORD => k_is)
    have A_taken : Dn.FnAt (Dn.GK KX fun _ => 0) mg "taken" Dn.s_taken := by
      refine' Dn.FnAt.of (PySem.W.mg_of KX G ?a) ?l ?c ?k
      (case a => k_is); (case l => k_is); (case c => k_is); (case k => k_is)
    have A__law_cell_at : Dn.FnAt (Dn.GK KX fun _ => 0) mg "_law_cell_at" Dn.s__law_cell_at := by
      refine' Dn.FnAt.of (PySem.W.mg_of KX G ?a) ?l ?c ?k
      (case a => k_is); (case l => k_is); (case c => k_is); (case k => k_is)
    have A__law_whole : Dn.FnAt (Dn.GK KX fun _ => 0) mg "_law_whole" Dn.s__law_whole := by
      refine' Dn.FnAt.of (PySem.W.mg_of KX G ?a) ?l ?c ?k
      (case a => k_is); (case l => k_is); (case c => k_is); (case k => k_is)
    have A__law_mixed : Dn.FnAt (Dn.GK KX fun _ => 0) mg "_law_mixed" Dn.s__law_mixed := by
      refine' Dn.FnAt.of (PySem.W.mg_of KX G ?a) ?l ?c ?k
      (case a => k_is); (case l => k_is); (case c => k_is); (case k => k_is)
    have A__law_word_by : Dn.FnAt (Dn.GK KX fun _ => 0) mg "_law_word_by" Dn.s__law_word_by := by
      refine' Dn.FnAt.of (PySem.W.mg_of KX G ?a) ?l ?c ?k
      (case a => k_is); (case l => k_is); (case c => k_is); (case k => k_is)
    have A__law_power : Dn.FnAt (Dn.GK KX fun _ => 0) mg "_law_power" Dn.s__law_power := by
      refine' Dn.FnAt.of (PySem.W.mg_of KX G ?a) ?l ?c ?k
      (case a => k_is); (case l => k_is); (case c => k_is); (case k => k_is)
    have A__law_pair_is : Dn.FnAt (Dn.GK KX fun _ => 0) mg "_law_pair_is" Dn.s__law_pair_is := by
      refine' Dn.FnAt.of (PySem.W.mg_of KX G ?a) ?l ?c ?k
      (case a => k_is); (case l => k_is); (case c => k_is); (case k => k_is)
    have A_law : Dn.FnAt (Dn.GK KX fun _ => 0) mg "law" Dn.s_law := by
      refine' Dn.FnAt.of (PySem.W.mg_of KX G ?a) ?l ?c ?k
      (case a => k_is); (case l => k_is); (case c => k_is); (case k => k_is)
    exact Dn.law_all Dn.math T A_taken A__law_cell_at A__law_whole A__law_mixed A__law_word_by A__law_power A__law_pair_is A_law hmg
