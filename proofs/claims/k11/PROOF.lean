import PyProof.Rows.All
import Wide.All
import OpenK.AllK
import Wide.FinOn
import HandS.ForMost
import HandS.ForExc
import HandS.Wide
import HandS.IsInst
import KE.DataEq
import HandS.TupAny
import HandS.EndBits
import HandS.Deep
import HandS.StrMore
import HandS.SortInts
import HandS.More
import HandS.RaiseMore
import HandS.Text
import HandS.Rev
import HandS.Zip
import HandS.Steps
import HandS.Dict
import KE.GoesMore
import HandS.TupLe
import HandS.SetFor
import HandS.Strs
import HandS.Style
import HandS.Iter
import HandS.ExcIs
import HandS.TryOnly
import HandS.HotCalls
import PyProof.StrOps2
import HandS.ReplaceList
import PySem.Challenge.RW_markrun_k11_rows_and_places
set_option Elab.async false
set_option linter.all false
set_option maxRecDepth 100000
set_option maxHeartbeats 2000000
/-! Dn: the data of a program's values, lists and dicts told by value; who owns what. -/
namespace Dn
open PySem L2

/-- data: what a value tells, with all that stands below it -/
inductive D where
  | non
  | bl (b : Bool)
  | int (i : Int)
  | str (s : Str)
  | tup (ds : List D)
  | lst (ds : List D)
  | dct (ks : List Key) (ds : List D)
  | obj (c : Nat) (ns : List Str) (ds : List D)
  /-- the script -/
  | scr (ns : List Int)
  /-- a built-in class, a class of the program's own -/
  | ty (n : String)
  | cls (c : Nat)

mutual
/-- no list, dict or instance within -/
def D.imm : D → Bool
  | .non => true
  | .bl _ => true
  | .int _ => true
  | .str _ => true
  | .tup ds => D.imms ds
  | .lst _ => false
  | .dct _ _ => false
  | .obj _ _ _ => false
  | .scr _ => true
  | .ty _ => true
  | .cls _ => true
def D.imms : List D → Bool
  | [] => true
  | d :: ds => d.imm && D.imms ds
end

/-- what is fixed for a program's run: the written part, the classes' addresses -/
structure Cts where
  K : PySem.W.Frag
  cls : Nat → Addr
  /-- the error in hand: where it stands, its class -/
  xa : Addr
  xe : Nat

/-- a list that nobody may change -/
def ScrL (K : PySem.W.Frag) (H : Hp) (a : Addr) (xs : List V) : Prop :=
  (∃ o, H a = some (.frz o (.lst xs))) ∨ ∃ (o : Obj) (its : Array Value) (n : Nat), K.lookup a = some o ∧ o.cls = .type "list" ∧ o.dict = none ∧ o.data = .seq its n ∧ its.size ≤ sizeLine ∧ Vals xs its.toList
theorem ScrL.seq {K : PySem.W.Frag} {H : Hp} {a : Addr} {xs : List V} (h : ScrL K H a xs) : SqL K H a xs := by
  rcases h with h | h
  · exact .inl (.inr h)
  · exact .inr h
mutual
/-- the value tells the data, read only; no list, dict or instance on the way stands at an avoided address -/
def Rep (G : Cts) (av : Addr → Prop) (H : Hp) : D → V → Prop
  | .non, v => v = .non
  | .bl b, v => v = .bl b
  | .int i, v => v = .int i
  | .str s, v => v = .str s
  | .tup ds, v => ∃ a vs, v = .ref a ∧ SqT G.K H a vs ∧ Reps G av H ds vs
  | .lst ds, v => ∃ a vs, v = .ref a ∧ ¬ av a ∧ H a = some (.lst vs) ∧ Reps G av H ds vs
  | .dct ks ds, v => ∃ a kvs, v = .ref a ∧ ¬ av a ∧ Rd H a (.dK kvs) ∧ kvs.map (·.1) = ks ∧ Reps G av H ds (kvs.map (·.2))
  | .obj c ns ds, v => ∃ a dx fs, v = .ref a ∧ ¬ av a ∧ H a = some (.ins (G.cls c) dx fs) ∧ fs.map (·.1) = ns ∧ Reps G av H ds (fs.map (·.2))
  | .scr ns, v => ∃ a, v = .ref a ∧ ScrL G.K H a (ns.map V.int)
  | .ty n, v => v = .ty n
  | .cls c, v => v = .ref (G.cls c)
def Reps (G : Cts) (av : Addr → Prop) (H : Hp) : List D → List V → Prop
  | [], vs => vs = []
  | d :: ds, vs => ∃ v r, vs = v :: r ∧ Rep G av H d v ∧ Reps G av H ds r
end

mutual
/-- .. and all that may change below it stands just at the addresses of a list, from the top down -/
def OT (G : Cts) (H : Hp) : D → V → List Addr → Prop
  | .non, v, fp => v = .non ∧ fp = []
  | .bl b, v, fp => v = .bl b ∧ fp = []
  | .int i, v, fp => v = .int i ∧ fp = []
  | .str s, v, fp => v = .str s ∧ fp = []
  | .tup ds, v, fp => ∃ a vs, v = .ref a ∧ SqT G.K H a vs ∧ OTs G H ds vs fp
  | .lst ds, v, fp => ∃ a vs f, v = .ref a ∧ fp = a :: f ∧ H a = some (.lst vs) ∧ OTs G H ds vs f
  | .dct ks ds, v, fp => ∃ a kvs f, v = .ref a ∧ fp = a :: f ∧ H a = some (.dK kvs) ∧ kvs.map (·.1) = ks ∧ OTs G H ds (kvs.map (·.2)) f
  | .obj c ns ds, v, fp => ∃ a dx fs f, v = .ref a ∧ fp = a :: f ∧ H a = some (.ins (G.cls c) dx fs) ∧ fs.map (·.1) = ns ∧ OTs G H ds (fs.map (·.2)) f
  | .scr ns, v, fp => (∃ a, v = .ref a ∧ ScrL G.K H a (ns.map V.int)) ∧ fp = []
  | .ty n, v, fp => v = .ty n ∧ fp = []
  | .cls c, v, fp => v = .ref (G.cls c) ∧ fp = []
def OTs (G : Cts) (H : Hp) : List D → List V → List Addr → Prop
  | [], vs, fp => vs = [] ∧ fp = []
  | d :: ds, vs, fp => ∃ v r f g, vs = v :: r ∧ fp = f ++ g ∧ OT G H d v f ∧ OTs G H ds r g
end

/-- all tuples stay -/
def Tk (G : Cts) (H H' : Hp) : Prop := (∀ a xs, SqT G.K H a xs → SqT G.K H' a xs) ∧ ∀ a xs, ScrL G.K H a xs → ScrL G.K H' a xs
/-- all that is not avoided stays -/
def Av (av : Addr → Prop) (H H' : Hp) : Prop := ∀ a o, ¬ av a → H a = some o → H' a = some o
abbrev Nav : Addr → Prop := fun _ => False

section
variable {G : Cts} {av av' : Addr → Prop} {H H' : Hp}

theorem rd_av (k : Av av H H') {a : Addr} {u : HO} (n : ¬ av a) (h : Rd H a u) : Rd H' a u := by
  rcases h with h | ⟨o, h⟩
  · exact .inl (k a _ n h)
  · exact .inr ⟨o, k a _ n h⟩
theorem rd_some {a : Addr} {u : HO} (h : Rd H a u) : ∃ o, H a = some o := by
  rcases h with h | ⟨o, h⟩
  · exact ⟨_, h⟩
  · exact ⟨_, h⟩

mutual
theorem Rep.ext (t : Tk G H H') (k : Av av H H') : ∀ (d : D) (v : V), Rep G av H d v → Rep G av H' d v
  | .non, v, h => h
  | .bl _, v, h => h
  | .int _, v, h => h
  | .str _, v, h => h
  | .tup ds, v, h => by
    obtain ⟨a, vs, e, s, r⟩ := h
    exact ⟨a, vs, e, t.1 _ _ s, Reps.ext t k ds vs r⟩
  | .lst ds, v, h => by
    obtain ⟨a, vs, e, n, s, r⟩ := h
    exact ⟨a, vs, e, n, k _ _ n s, Reps.ext t k ds vs r⟩
  | .dct ks ds, v, h => by
    obtain ⟨a, kvs, e, n, s, q, r⟩ := h
    exact ⟨a, kvs, e, n, rd_av k n s, q, Reps.ext t k ds _ r⟩
  | .obj c ns ds, v, h => by
    obtain ⟨a, dx, fs, e, n, s, q, r⟩ := h
    exact ⟨a, dx, fs, e, n, k _ _ n s, q, Reps.ext t k ds _ r⟩
  | .scr ns, v, h => by
    obtain ⟨a, e, s⟩ := h
    exact ⟨a, e, t.2 _ _ s⟩
  | .ty _, v, h => h
  | .cls _, v, h => h
theorem Reps.ext (t : Tk G H H') (k : Av av H H') : ∀ (ds : List D) (vs : List V), Reps G av H ds vs → Reps G av H' ds vs
  | [], vs, h => h
  | d :: ds, vs, h => by
    obtain ⟨v, r, e, h1, h2⟩ := h
    exact ⟨v, r, e, Rep.ext t k d v h1, Reps.ext t k ds r h2⟩
end

mutual
theorem Rep.weak (k : ∀ a, (∃ o, H a = some o) → av' a → av a) : ∀ (d : D) (v : V), Rep G av H d v → Rep G av' H d v
  | .non, v, h => h
  | .bl _, v, h => h
  | .int _, v, h => h
  | .str _, v, h => h
  | .tup ds, v, h => by
    obtain ⟨a, vs, e, s, r⟩ := h
    exact ⟨a, vs, e, s, Reps.weak k ds vs r⟩
  | .lst ds, v, h => by
    obtain ⟨a, vs, e, n, s, r⟩ := h
    exact ⟨a, vs, e, fun z => n (k a ⟨_, s⟩ z), s, Reps.weak k ds vs r⟩
  | .dct ks ds, v, h => by
    obtain ⟨a, kvs, e, n, s, q, r⟩ := h
    exact ⟨a, kvs, e, fun z => n (k a (rd_some s) z), s, q, Reps.weak k ds _ r⟩
  | .obj c ns ds, v, h => by
    obtain ⟨a, dx, fs, e, n, s, q, r⟩ := h
    exact ⟨a, dx, fs, e, fun z => n (k a ⟨_, s⟩ z), s, q, Reps.weak k ds _ r⟩
  | .scr ns, v, h => h
  | .ty _, v, h => h
  | .cls _, v, h => h
theorem Reps.weak (k : ∀ a, (∃ o, H a = some o) → av' a → av a) : ∀ (ds : List D) (vs : List V), Reps G av H ds vs → Reps G av' H ds vs
  | [], vs, h => h
  | d :: ds, vs, h => by
    obtain ⟨v, r, e, h1, h2⟩ := h
    exact ⟨v, r, e, Rep.weak k d v h1, Reps.weak k ds r h2⟩
end

mutual
theorem Rep.own : ∀ (d : D) (v : V), d.imm = true → Rep G av H d v → OT G H d v []
  | .non, v, _, h => ⟨h, rfl⟩
  | .bl _, v, _, h => ⟨h, rfl⟩
  | .int _, v, _, h => ⟨h, rfl⟩
  | .str _, v, _, h => ⟨h, rfl⟩
  | .tup ds, v, i, h => by
    obtain ⟨a, vs, e, s, r⟩ := h
    exact ⟨a, vs, e, s, Reps.own ds vs i r⟩
  | .lst _, _, i, _ => by cases i
  | .dct _ _, _, i, _ => by cases i
  | .obj _ _ _, _, i, _ => by cases i
  | .scr _, _, _, h => ⟨h, rfl⟩
  | .ty _, _, _, h => ⟨h, rfl⟩
  | .cls _, _, _, h => ⟨h, rfl⟩
theorem Reps.own : ∀ (ds : List D) (vs : List V), D.imms ds = true → Reps G av H ds vs → OTs G H ds vs []
  | [], vs, _, h => ⟨h, rfl⟩
  | d :: ds, vs, i, h => by
    obtain ⟨v, r, e, h1, h2⟩ := h
    have i' : (d.imm && D.imms ds) = true := i
    rw [Bool.and_eq_true] at i'
    exact ⟨v, r, [], [], e, rfl, Rep.own d v i'.1 h1, Reps.own ds r i'.2 h2⟩
end

mutual
theorem OT.rep : ∀ (d : D) (v : V) (fp : List Addr), (∀ a ∈ fp, ¬ av a) → OT G H d v fp → Rep G av H d v
  | .non, v, _, _, h => h.1
  | .bl _, v, _, _, h => h.1
  | .int _, v, _, _, h => h.1
  | .str _, v, _, _, h => h.1
  | .tup ds, v, fp, n, h => by
    obtain ⟨a, vs, e, s, r⟩ := h
    exact ⟨a, vs, e, s, OTs.rep ds vs fp n r⟩
  | .lst ds, v, fp, n, h => by
    obtain ⟨a, vs, f, e, ef, s, r⟩ := h
    subst ef
    exact ⟨a, vs, e, n a (List.mem_cons_self), s, OTs.rep ds vs f (fun b hb => n b (List.mem_cons_of_mem _ hb)) r⟩
  | .dct ks ds, v, fp, n, h => by
    obtain ⟨a, kvs, f, e, ef, s, q, r⟩ := h
    subst ef
    exact ⟨a, kvs, e, n a (List.mem_cons_self), .inl s, q, OTs.rep ds _ f (fun b hb => n b (List.mem_cons_of_mem _ hb)) r⟩
  | .obj c ns ds, v, fp, n, h => by
    obtain ⟨a, dx, fs, f, e, ef, s, q, r⟩ := h
    subst ef
    exact ⟨a, dx, fs, e, n a (List.mem_cons_self), s, q, OTs.rep ds _ f (fun b hb => n b (List.mem_cons_of_mem _ hb)) r⟩
  | .scr ns, v, _, _, h => h.1
  | .ty _, v, _, _, h => h.1
  | .cls _, v, _, _, h => h.1
theorem OTs.rep : ∀ (ds : List D) (vs : List V) (fp : List Addr), (∀ a ∈ fp, ¬ av a) → OTs G H ds vs fp → Reps G av H ds vs
  | [], vs, _, _, h => h.1
  | d :: ds, vs, fp, n, h => by
    obtain ⟨v, r, f, g, e, ef, h1, h2⟩ := h
    subst ef
    exact ⟨v, r, e, OT.rep d v f (fun a ha => n a (List.mem_append_left _ ha)) h1, OTs.rep ds r g (fun a ha => n a (List.mem_append_right _ ha)) h2⟩
end

mutual
theorem OT.ext (t : Tk G H H') : ∀ (d : D) (v : V) (fp : List Addr), (∀ a ∈ fp, H' a = H a) → OT G H d v fp → OT G H' d v fp
  | .non, v, _, _, h => h
  | .bl _, v, _, _, h => h
  | .int _, v, _, _, h => h
  | .str _, v, _, _, h => h
  | .tup ds, v, fp, n, h => by
    obtain ⟨a, vs, e, s, r⟩ := h
    exact ⟨a, vs, e, t.1 _ _ s, OTs.ext t ds vs fp n r⟩
  | .lst ds, v, fp, n, h => by
    obtain ⟨a, vs, f, e, ef, s, r⟩ := h
    subst ef
    exact ⟨a, vs, f, e, rfl, (n a List.mem_cons_self).trans s, OTs.ext t ds vs f (fun b hb => n b (List.mem_cons_of_mem _ hb)) r⟩
  | .dct ks ds, v, fp, n, h => by
    obtain ⟨a, kvs, f, e, ef, s, q, r⟩ := h
    subst ef
    exact ⟨a, kvs, f, e, rfl, (n a List.mem_cons_self).trans s, q, OTs.ext t ds _ f (fun b hb => n b (List.mem_cons_of_mem _ hb)) r⟩
  | .obj c ns ds, v, fp, n, h => by
    obtain ⟨a, dx, fs, f, e, ef, s, q, r⟩ := h
    subst ef
    exact ⟨a, dx, fs, f, e, rfl, (n a List.mem_cons_self).trans s, q, OTs.ext t ds _ f (fun b hb => n b (List.mem_cons_of_mem _ hb)) r⟩
  | .scr ns, v, _, _, h => by
    obtain ⟨⟨a, e, s⟩, ef⟩ := h
    exact ⟨⟨a, e, t.2 _ _ s⟩, ef⟩
  | .ty _, v, _, _, h => h
  | .cls _, v, _, _, h => h
theorem OTs.ext (t : Tk G H H') : ∀ (ds : List D) (vs : List V) (fp : List Addr), (∀ a ∈ fp, H' a = H a) → OTs G H ds vs fp → OTs G H' ds vs fp
  | [], vs, _, _, h => h
  | d :: ds, vs, fp, n, h => by
    obtain ⟨v, r, f, g, e, ef, h1, h2⟩ := h
    subst ef
    exact ⟨v, r, f, g, e, rfl, OT.ext t d v f (fun a ha => n a (List.mem_append_left _ ha)) h1, OTs.ext t ds r g (fun a ha => n a (List.mem_append_right _ ha)) h2⟩
end

mutual
theorem OT.there : ∀ (d : D) (v : V) (fp : List Addr), OT G H d v fp → ∀ a ∈ fp, ∃ o, H a = some o ∧ Mut (some o)
  | .non, v, _, h, a, ha => by rw [h.2] at ha; cases ha
  | .bl _, v, _, h, a, ha => by rw [h.2] at ha; cases ha
  | .int _, v, _, h, a, ha => by rw [h.2] at ha; cases ha
  | .str _, v, _, h, a, ha => by rw [h.2] at ha; cases ha
  | .tup ds, v, fp, h, a, ha => by
    obtain ⟨b, vs, e, s, r⟩ := h
    exact OTs.there ds vs fp r a ha
  | .lst ds, v, fp, h, a, ha => by
    obtain ⟨b, vs, f, e, ef, s, r⟩ := h
    subst ef
    rcases List.mem_cons.mp ha with rfl | ha
    · exact ⟨_, s, trivial⟩
    · exact OTs.there ds vs f r a ha
  | .dct ks ds, v, fp, h, a, ha => by
    obtain ⟨b, kvs, f, e, ef, s, q, r⟩ := h
    subst ef
    rcases List.mem_cons.mp ha with rfl | ha
    · exact ⟨_, s, trivial⟩
    · exact OTs.there ds _ f r a ha
  | .obj c ns ds, v, fp, h, a, ha => by
    obtain ⟨b, dx, fs, f, e, ef, s, q, r⟩ := h
    subst ef
    rcases List.mem_cons.mp ha with rfl | ha
    · exact ⟨_, s, trivial⟩
    · exact OTs.there ds _ f r a ha
  | .scr ns, v, _, h, a, ha => by rw [h.2] at ha; cases ha
  | .ty _, v, _, h, a, ha => by rw [h.2] at ha; cases ha
  | .cls _, v, _, h, a, ha => by rw [h.2] at ha; cases ha
theorem OTs.there : ∀ (ds : List D) (vs : List V) (fp : List Addr), OTs G H ds vs fp → ∀ a ∈ fp, ∃ o, H a = some o ∧ Mut (some o)
  | [], vs, _, h, a, ha => by rw [h.2] at ha; cases ha
  | d :: ds, vs, fp, h, a, ha => by
    obtain ⟨v, r, f, g, e, ef, h1, h2⟩ := h
    subst ef
    rcases List.mem_append.mp ha with ha | ha
    · exact OT.there d v f h1 a ha
    · exact OTs.there ds r g h2 a ha
end
end
end Dn
set_option Elab.async false
set_option linter.all false
set_option maxRecDepth 100000
set_option maxHeartbeats 2000000
/-! Dn2: states of slots, results, readings of expressions, tests, statements by denotations. -/
namespace Dn
open PySem L2

/-- a slot: nothing known; data that is read only; data of its own; an argument that is changed in place -/
inductive Sl where
  | nil
  | shr (d : D)
  | own (d : D)
  | io (d : D)
  /-- the error in hand -/
  | exc (e : Nat)
abbrev Rho := List Sl

inductive R (α : Type) where
  | ok (a : α)
  | ex (e : Nat)
  | bad
def R.bind {α β : Type} (r : R α) (f : α → R β) : R β := match r with
  | .ok a => f a
  | .ex e => .ex e
  | .bad => .bad
def R.opt {α : Type} : Option α → R α
  | some a => .ok a
  | none => .bad
/-- how a value may be kept: new and nobody else's; read only; for now -/
inductive Md where
  | fr | sh | tr
def Md.jn : Md → Md → Md
  | .fr, m => m
  | .sh, .tr => .tr
  | .sh, _ => .sh
  | .tr, _ => .tr
def md (d : D) (m : Md) : Md := if d.imm then .fr else m
abbrev E := Rho → R (D × Md)
abbrev EA := Rho → R (List D × Md)
abbrev T := Rho → R Bool

abbrev Own (fp : Nat → List Addr) : Addr → Prop := fun a => ∃ i, a ∈ fp i
def SlOk (G : Cts) (av : Addr → Prop) (H : Hp) (f : List Addr) (w : Option (Option V)) (fv : Option V) : Sl → Prop
  | .nil => True
  | .shr d => ∃ v, w = some (some v) ∧ Rep G av H d v
  | .own d => ∃ v, w = some (some v) ∧ OT G H d v f
  | .io d => ∃ v, w = some (some v) ∧ fv = some v ∧ OT G H d v f
  | .exc e => w = some (some (.ref G.xa)) ∧ G.xe = e
/-- the slots' values tell their data -/
structure LSR (G : Cts) (fp : Nat → List Addr) (fv : Nat → Option V) (σ : L2.St) (H : Hp) (ρ : Rho) : Prop where
  len : σ.length = ρ.length
  nd : ∀ i, (fp i).Nodup
  dj : ∀ i j, i ≠ j → ∀ a ∈ fp i, a ∉ fp j
  al : ∀ i, ∀ a ∈ fp i, ∃ o, H a = some o
  sl : ∀ (i : Nat) (s : Sl), ρ[i]? = some s → SlOk G (Own fp) H (fp i) (σ[i]?) (fv i) s

section
variable {G : Cts} {fp : Nat → List Addr} {fv : Nat → Option V} {σ : L2.St} {H H' H1 H2 : Hp} {ρ : Rho}
theorem tk_same (e : Same H H') : Tk G H H' := by
  refine ⟨fun a xs h => ?_, fun a xs h => ?_⟩
  · rcases h with (h | ⟨o, h⟩) | h
    · exact .inl (.inl (e _ _ h))
    · exact .inl (.inr ⟨o, e _ _ h⟩)
    · exact .inr h
  · rcases h with ⟨o, h⟩ | h
    · exact .inl ⟨o, e _ _ h⟩
    · exact .inr h
theorem Tk.refl : Tk G H H := ⟨fun _ _ h => h, fun _ _ h => h⟩
theorem same_new {p : Addr} {o : HO} (h : H p = none) : Same H (upd H p o) := fun a u e => by
  rw [upd_ne (ne_of_none e h)]
  exact e
theorem av_same {av : Addr → Prop} (e : Same H H') : Av av H H' := fun a o _ h => e a o h
theorem Tk.trans (a : Tk G H H1) (b : Tk G H1 H2) : Tk G H H2 := ⟨fun x xs h => b.1 x xs (a.1 x xs h), fun x xs h => b.2 x xs (a.2 x xs h)⟩
theorem Rep.same {av : Addr → Prop} {d : D} {v : V} (e : Same H H') (h : Rep G av H d v) : Rep G av H' d v := Rep.ext (tk_same e) (av_same e) d v h
theorem Reps.same {av : Addr → Prop} {d : List D} {v : List V} (e : Same H H') (h : Reps G av H d v) : Reps G av H' d v := Reps.ext (tk_same e) (av_same e) d v h
theorem OT.same {d : D} {v : V} {f : List Addr} (e : Same H H') (h : OT G H d v f) : OT G H' d v f :=
  OT.ext (tk_same e) d v f (fun a ha => by
    obtain ⟨o, q, _⟩ := OT.there d v f h a ha
    rw [q, e a o q]) h
theorem OTs.same {d : List D} {v : List V} {f : List Addr} (e : Same H H') (h : OTs G H d v f) : OTs G H' d v f :=
  OTs.ext (tk_same e) d v f (fun a ha => by
    obtain ⟨o, q, _⟩ := OTs.there d v f h a ha
    rw [q, e a o q]) h
theorem SlOk.same {av : Addr → Prop} {f : List Addr} {w : Option (Option V)} {x : Option V} (e : Same H H') : ∀ {s : Sl}, SlOk G av H f w x s → SlOk G av H' f w x s
  | .nil, _ => trivial
  | .shr d, ⟨v, h1, h2⟩ => ⟨v, h1, h2.same e⟩
  | .own d, ⟨v, h1, h2⟩ => ⟨v, h1, h2.same e⟩
  | .io d, ⟨v, h1, h2, h3⟩ => ⟨v, h1, h2, h3.same e⟩
  | .exc _, h => h
theorem LSR.same (e : Same H H') (h : LSR G fp fv σ H ρ) : LSR G fp fv σ H' ρ :=
  ⟨h.len, h.nd, h.dj, fun i a ha => let ⟨o, q⟩ := h.al i a ha; ⟨o, e a o q⟩, fun i s q => (h.sl i s q).same e⟩

/-- new behind H -/
def Fresh (G : Cts) (H H' : Hp) (d : D) (v : V) : Prop := ∃ f, OT G H' d v f ∧ f.Nodup ∧ ∀ a ∈ f, H a = none
def Freshs (G : Cts) (H H' : Hp) (d : List D) (v : List V) : Prop := ∃ f, OTs G H' d v f ∧ f.Nodup ∧ ∀ a ∈ f, H a = none
def VOk (G : Cts) (fp : Nat → List Addr) (H H' : Hp) : Md → D → V → Prop
  | .fr, d, v => Fresh G H H' d v
  | .sh, d, v => Rep G (Own fp) H' d v
  | .tr, d, v => Rep G Nav H' d v
def VsOk (G : Cts) (fp : Nat → List Addr) (H H' : Hp) : Md → List D → List V → Prop
  | .fr, d, v => Freshs G H H' d v
  | .sh, d, v => Reps G (Own fp) H' d v
  | .tr, d, v => Reps G Nav H' d v
theorem Fresh.rep {d : D} {v : V} {av : Addr → Prop} (h : Fresh G H H' d v) (n : ∀ a, av a → ∃ o, H a = some o) : Rep G av H' d v := by
  obtain ⟨f, h1, h2, h3⟩ := h
  refine OT.rep d v f (fun a ha z => ?_) h1
  obtain ⟨o, q⟩ := n a z
  rw [h3 a ha] at q
  cases q
theorem Freshs.rep {d : List D} {v : List V} {av : Addr → Prop} (h : Freshs G H H' d v) (n : ∀ a, av a → ∃ o, H a = some o) : Reps G av H' d v := by
  obtain ⟨f, h1, h2, h3⟩ := h
  refine OTs.rep d v f (fun a ha z => ?_) h1
  obtain ⟨o, q⟩ := n a z
  rw [h3 a ha] at q
  cases q
theorem Fresh.same {d : D} {v : V} (e : Same H1 H2) (h : Fresh G H H1 d v) : Fresh G H H2 d v := let ⟨f, a, b, c⟩ := h; ⟨f, a.same e, b, c⟩
theorem Fresh.back {d : D} {v : V} (e : Same H H1) (h : Fresh G H1 H2 d v) : Fresh G H H2 d v := let ⟨f, a, b, c⟩ := h; ⟨f, a, b, fun x hx => e.free (c x hx)⟩
theorem Fresh.of_imm {av : Addr → Prop} {d : D} {v : V} (i : d.imm = true) (h : Rep G av H' d v) : Fresh G H H' d v := ⟨[], Rep.own d v i h, List.nodup_nil, fun _ z => by cases z⟩
theorem VOk.sh {m : Md} {d : D} {v : V} (I : LSR G fp fv σ H ρ) (hm : m ≠ .tr) (h : VOk G fp H H' m d v) : Rep G (Own fp) H' d v := by
  cases m with
  | fr => exact Fresh.rep h fun a ⟨i, z⟩ => I.al i a z
  | sh => exact h
  | tr => exact absurd rfl hm
theorem Rep.tr {av : Addr → Prop} {d : D} {v : V} (h : Rep G av H d v) : Rep G Nav H d v := Rep.weak (fun a _ z => z.elim) d v h
theorem Reps.tr {av : Addr → Prop} {d : List D} {v : List V} (h : Reps G av H d v) : Reps G Nav H d v := Reps.weak (fun a _ z => z.elim) d v h
theorem VOk.tr {m : Md} {d : D} {v : V} (h : VOk G fp H H' m d v) : Rep G Nav H' d v := by
  cases m with
  | fr => exact Fresh.rep h fun a z => z.elim
  | sh => exact Rep.tr (av := Own fp) h
  | tr => exact h
theorem VsOk.tr {m : Md} {d : List D} {v : List V} (h : VsOk G fp H H' m d v) : Reps G Nav H' d v := by
  cases m with
  | fr => exact Freshs.rep h fun a z => z.elim
  | sh => exact Reps.tr (av := Own fp) h
  | tr => exact h
theorem VOk.nrm {m : Md} {d : D} {v : V} (h : VOk G fp H H' m d v) : VOk G fp H H' (md d m) d v := by
  unfold md
  split
  · rename_i i
    exact Fresh.of_imm i h.tr
  · exact h
theorem VOk.same {m : Md} {d : D} {v : V} (e : Same H1 H2) (h : VOk G fp H H1 m d v) : VOk G fp H H2 m d v := by
  cases m with
  | fr => exact Fresh.same e h
  | sh => exact Rep.same e h
  | tr => exact Rep.same e h
theorem VOk.back {m : Md} {d : D} {v : V} (e : Same H H1) (h : VOk G fp H1 H2 m d v) : VOk G fp H H2 m d v := by
  cases m with
  | fr => exact Fresh.back e h
  | sh => exact h
  | tr => exact h
/-- one more value behind those that came first -/
theorem VsOk.cons {m n : Md} {d : D} {v : V} {ds : List D} {vs : List V} (I : LSR G fp fv σ H ρ) (e1 : Same H H1) (e : Same H1 H2) (h : VOk G fp H H1 m d v) (hs : VsOk G fp H1 H2 n ds vs) :
    VsOk G fp H H2 (Md.jn m n) (d :: ds) (v :: vs) := by
  have own1 : ∀ a, Own fp a → ∃ o, H1 a = some o := fun a ⟨i, z⟩ => let ⟨o, q⟩ := I.al i a z; ⟨o, e1 a o q⟩
  have own0 : ∀ a, Own fp a → ∃ o, H a = some o := fun a ⟨i, z⟩ => I.al i a z
  have trc : ∀ {m' n'}, VOk G fp H H1 m' d v → VsOk G fp H1 H2 n' ds vs → Reps G Nav H2 (d :: ds) (v :: vs) := fun h hs => ⟨v, vs, rfl, (h.same e).tr, hs.tr⟩
  cases m with
  | fr =>
    cases n with
    | fr =>
      obtain ⟨f, a1, a2, a3⟩ := h
      obtain ⟨g, b1, b2, b3⟩ := hs
      refine ⟨f ++ g, ⟨v, vs, f, g, rfl, rfl, a1.same e, b1⟩, ?_, fun a ha => ?_⟩
      · refine List.nodup_append.mpr ⟨a2, b2, fun x hx y hy z => ?_⟩
        subst z
        obtain ⟨o, q, _⟩ := OT.there d v f a1 x hx
        rw [b3 x hy] at q
        cases q
      · rcases List.mem_append.mp ha with ha | ha
        · exact a3 a ha
        · exact e1.free (b3 a ha)
    | sh => exact ⟨v, vs, rfl, (Fresh.same e h).rep own0, hs⟩
    | tr => exact trc (m' := .fr) (n' := .tr) h hs
  | sh =>
    cases n with
    | fr => exact ⟨v, vs, rfl, Rep.same e h, Freshs.rep hs own1⟩
    | sh => exact ⟨v, vs, rfl, Rep.same e h, hs⟩
    | tr => exact trc (m' := .sh) (n' := .tr) h hs
  | tr => exact trc (m' := .tr) (n' := n) h hs
end

/-! ### readings by denotations -/
def tE (G : Cts) (W : WX) (f : E) : TE := fun σ H Q => ∃ fp fv ρ, LSR G fp fv σ H ρ ∧ match f ρ with
  | .ok (d, m) => ∀ v H', Same H H' → VOk G fp H H' m d v → Q v H'
  | .ex e => ∀ H', Same H H' → W (.ref (G.cls e)) none σ H'
  | .bad => False
def tA (G : Cts) (W : WX) (f : EA) : TA := fun σ H Q => ∃ fp fv ρ, LSR G fp fv σ H ρ ∧ match f ρ with
  | .ok (d, m) => ∀ v H', Same H H' → VsOk G fp H H' m d v → Q v H'
  | .ex e => ∀ H', Same H H' → W (.ref (G.cls e)) none σ H'
  | .bad => False
def tT (G : Cts) (W : WX) (f : T) : TT := fun σ H Q => ∃ fp fv ρ, LSR G fp fv σ H ρ ∧ match f ρ with
  | .ok b => ∀ H', Same H H' → Q b H'
  | .ex e => ∀ H', Same H H' → W (.ref (G.cls e)) none σ H'
  | .bad => False

section
variable {X : Cx} {G : Cts} {W : WX}
theorem PE.of {e : Expr} {t t' : TE} (h : PE X e t) (k : ∀ σ H Q, t' σ H Q → t σ H Q) : PE X e t' := ⟨fun pins s σ H Q I hw => h.run pins s σ H Q I (k σ H Q hw)⟩
theorem PA.of {e : List Expr} {t t' : TA} (h : PA X e t) (k : ∀ σ H Q, t' σ H Q → t σ H Q) : PA X e t' := ⟨fun p pins s σ H Q I hw => h.run p pins s σ H Q I (k σ H Q hw)⟩
theorem PT.of {e : Expr} {t t' : TT} (h : PT X e t) (k : ∀ σ H Q, t' σ H Q → t σ H Q) : PT X e t' := ⟨fun pins s σ H Q I hw => h.run pins s σ H Q I (k σ H Q hw)⟩
theorem PW.of {e : Expr} {t t' : TT} (h : PW X e t) (k : ∀ σ H Q, t' σ H Q → t σ H Q) : PW X e t' := ⟨fun wh pins s σ H Q I hw => h.run wh pins s σ H Q I (k σ H Q hw)⟩
theorem PS.of {e : Stmt} {t t' : TS} (h : PS X e t) (k : ∀ D σ H, t' D σ H → t D σ H) : PS X e t' := ⟨fun pins s σ H D I hw => h.run pins s σ H D I (k D σ H hw)⟩
theorem PSs.of {e : List Stmt} {t t' : TS} (h : PSs X e t) (k : ∀ D σ H, t' D σ H → t D σ H) : PSs X e t' := ⟨fun pins s σ H D I hw => h.run pins s σ H D I (k D σ H hw)⟩

/-- how two readings follow one another -/
theorem tE.go {f : E} {σ : L2.St} {H : Hp} {Q : VK} {fp : Nat → List Addr} {fv : Nat → Option V} {ρ : Rho} (I : LSR G fp fv σ H ρ)
    (hx : ∀ e, f ρ = .ex e → ∀ H', Same H H' → W (.ref (G.cls e)) none σ H') (hb : f ρ ≠ .bad)
    (hk : ∀ d m, f ρ = .ok (d, m) → ∀ v H', Same H H' → VOk G fp H H' m d v → Q v H') : tE G W f σ H Q := by
  refine ⟨fp, fv, ρ, I, ?_⟩
  cases q : f ρ with
  | ok r => exact hk r.1 r.2 q
  | ex e => exact hx e q
  | bad => exact absurd q hb

def eVar (i : Nat) : E := fun ρ => match ρ[i]? with
  | some (.shr d) => .ok (d, .sh)
  | some (.own d) => .ok (d, .tr)
  | some (.io d) => .ok (d, .tr)
  | _ => .bad
theorem px_var {e : Expr} {i : Nat} (h : PE X e (tVar i)) : PE X e (tE G W (eVar i)) := by
  refine PE.of h fun σ H Q ⟨fp, fv, ρ, I, q⟩ => ?_
  unfold eVar at q
  cases e : ρ[i]? with
  | none =>
    rw [e] at q
    exact q.elim
  | some s =>
    rw [e] at q
    have r := I.sl i s e
    cases s with
    | nil => exact q.elim
    | shr d =>
      obtain ⟨v, e1, r⟩ := r
      exact ⟨v, e1, q v H (Same.refl H) r⟩
    | own d =>
      obtain ⟨v, e1, r⟩ := r
      exact ⟨v, e1, q v H (Same.refl H) (OT.rep d v _ (fun _ _ z => z) r)⟩
    | exc _ => exact q.elim
    | io d =>
      obtain ⟨v, e1, _, r⟩ := r
      exact ⟨v, e1, q v H (Same.refl H) (OT.rep d v _ (fun _ _ z => z) r)⟩
def eC (d : D) : E := fun _ => .ok (d, .fr)
/-- constants -/
theorem px_c {e : Expr} {v : V} {d : D} (h : PE X e (tC v)) (hd : d.imm = true) (hr : ∀ H, Rep G Nav H d v) : PE X e (tE G W (eC d)) :=
  PE.of h fun σ H Q ⟨fp, fv, ρ, I, q⟩ => q v H (Same.refl H) (Fresh.of_imm hd (hr H))
theorem px_int {i j pos} : PE X (.Constant (.int i) j pos) (tE G W (eC (.int i))) := px_c pe_int rfl fun _ => rfl
theorem px_bl {i j pos} : PE X (.Constant (.bool i) j pos) (tE G W (eC (.bl i))) := px_c pe_bl rfl fun _ => rfl
theorem px_non {j pos} : PE X (.Constant .none j pos) (tE G W (eC .non)) := px_c pe_non rfl fun _ => rfl
theorem px_str {i j pos} : PE X (.Constant (.str i) j pos) (tE G W (eC (.str i))) := px_c pe_str rfl fun _ => rfl

/-- two places, a rule by values -/
def Op2 (G : Cts) (r : R2) (f : D → D → Option D) : Prop :=
  ∀ x y d e H, Rep G Nav H d x → Rep G Nav H e y → ∀ c, f d e = some c → ∀ Q : VK, (∀ v H', Same H H' → Fresh G H H' c v → Q v H') → r x y H Q
def eBin (op : D → D → Option D) (f g : E) : E := fun ρ => (f ρ).bind fun a => (g ρ).bind fun b => (R.opt (op a.1 b.1)).bind fun c => .ok (c, .fr)
theorem tE.bin {op : D → D → Option D} {r : R2} (ho : Op2 G r op) {f g : E} {σ : L2.St} {H : Hp} {Q : VK} (h : tE G W (eBin op f g) σ H Q) : tOp r (tE G W f) (tE G W g) σ H Q := by
  obtain ⟨fp, fv, ρ, I, q⟩ := h
  unfold eBin at q
  refine tE.go I (fun e h => ?_) (fun h => ?_) fun d m h v H1 e1 v1 => ?_
  · rw [h] at q
    exact q
  · rw [h] at q
    exact q
  · rw [h] at q
    have I1 := I.same e1
    refine tE.go I1 (fun e h2 H' e' => ?_) (fun h2 => ?_) fun d2 m2 h2 v2 H2 e2 w2 => ?_
    · simp only [R.bind, h2] at q
      exact q H' (e1.trans e')
    · simp only [R.bind, h2] at q
    · simp only [R.bind, h2] at q
      cases h3 : op d d2 with
      | none =>
        simp only [h3, R.opt] at q
      | some c =>
        simp only [h3, R.opt] at q
        exact ho v v2 d d2 H2 ((v1.same e2).tr) w2.tr c h3 Q fun v' H' e' fr' => q v' H' ((e1.trans e2).trans e') (fr'.back (e1.trans e2))
theorem px_bin {a b : Expr} {pos : Pos} {o : Operator} {op : D → D → Option D} {r : R2} {f g : E} (hr : OpR X (binaryOp o) r) (ho : Op2 G r op) (ha : PE X a (tE G W f)) (hb : PE X b (tE G W g)) :
    PE X (.BinOp a o b pos) (tE G W (eBin op f g)) := PE.of (pe_op hr ha hb) fun _ _ _ h => tE.bin ho h
theorem px_cmp {a b : Expr} {pos : Pos} {o : CmpOp} {op : D → D → Option D} {r : R2} {f g : E} (hr : OpR X (compareOp o) r) (ho : Op2 G r op) (ha : PE X a (tE G W f)) (hb : PE X b (tE G W g)) (hm : behindInMarks o b = false) :
    PE X (.Compare a [o] [b] pos) (tE G W (eBin op f g)) := PE.of (pe_cmpR hr ha hb hm) fun _ _ _ h => tE.bin ho h
theorem Op2.or {r r' : R2} {f : D → D → Option D} {g : D → D → Option D} (h : Op2 G r f) (h' : Op2 G r' g) : Op2 G (fun x y H Q => r x y H Q ∨ r' x y H Q) (fun a b => match f a b with | some c => some c | none => g a b) := by
  intro x y d e H hx hy c hc Q k
  cases q : f d e with
  | some c' =>
    simp only [q] at hc
    cases hc
    exact .inl (h x y d e H hx hy _ q Q k)
  | none =>
    simp only [q] at hc
    exact .inr (h' x y d e H hx hy c hc Q k)
end
end Dn
set_option Elab.async false
set_option linter.all false
set_option maxRecDepth 100000
set_option maxHeartbeats 2000000
/-! Dn3: arguments, displays, tests. -/
namespace Dn
open PySem L2
theorem line_big {n : Nat} (h : n ≤ 1000000) : n ≤ sizeLine := Nat.le_trans h (by decide)
theorem line_lt {n : Nat} (h : n < 1000000) : n < sizeLine := Nat.lt_of_lt_of_le h (by decide)
section
variable {G : Cts} {av : Addr → Prop} {H : Hp}
theorem Reps.length : ∀ {ds : List D} {vs : List V}, Reps G av H ds vs → ds.length = vs.length
  | [], _, h => by
    obtain rfl : _ = [] := h
    rfl
  | d :: ds, _, ⟨v, r, e, _, h⟩ => by
    subst e
    rw [List.length_cons, List.length_cons, Reps.length h]
theorem OTs.length {f : List Addr} : ∀ {ds : List D} {vs : List V} {f : List Addr}, OTs G H ds vs f → ds.length = vs.length
  | [], _, _, h => by
    obtain rfl : _ = [] := h.1
    rfl
  | d :: ds, _, _, ⟨v, r, f, g, e, _, _, h⟩ => by
    subst e
    rw [List.length_cons, List.length_cons, OTs.length (f := g) h]
theorem VsOk.length {fp : Nat → List Addr} {H' : Hp} {m : Md} {ds : List D} {vs : List V} (h : VsOk G fp H H' m ds vs) : ds.length = vs.length := Reps.length h.tr
end
section
variable {X : Cx} {G : Cts} {W : WX}
theorem tE.of_bind {α : Type} {f : E} {k : D × Md → R α} {y : R α → Prop} {σ : L2.St} {H : Hp} {Q : VK} {fp : Nat → List Addr} {fv : Nat → Option V} {ρ : Rho} (I : LSR G fp fv σ H ρ) (q : y ((f ρ).bind k))
    (hx : ∀ e, y (.ex e) → ∀ H', Same H H' → W (.ref (G.cls e)) none σ H') (hb : ¬ y .bad)
    (hk : ∀ d m, y (k (d, m)) → ∀ v H', Same H H' → VOk G fp H H' m d v → Q v H') : tE G W f σ H Q := by
  refine tE.go I (fun e h => ?_) (fun h => ?_) fun d m h => ?_
  · rw [h] at q
    exact hx e q
  · rw [h] at q
    exact hb q
  · rw [h] at q
    exact hk d m q
theorem tA.of_bind {α : Type} {f : EA} {k : List D × Md → R α} {y : R α → Prop} {σ : L2.St} {H : Hp} {Q : List V → Hp → Prop} {fp : Nat → List Addr} {fv : Nat → Option V} {ρ : Rho} (I : LSR G fp fv σ H ρ) (q : y ((f ρ).bind k))
    (hx : ∀ e, y (.ex e) → ∀ H', Same H H' → W (.ref (G.cls e)) none σ H') (hb : ¬ y .bad)
    (hk : ∀ d m, y (k (d, m)) → ∀ v H', Same H H' → VsOk G fp H H' m d v → Q v H') : tA G W f σ H Q := by
  refine ⟨fp, fv, ρ, I, ?_⟩
  cases h : f ρ with
  | ok r =>
    rw [h] at q
    exact hk r.1 r.2 q
  | ex e =>
    rw [h] at q
    exact hx e q
  | bad =>
    rw [h] at q
    exact hb q
theorem tT.of_bind {α : Type} {f : T} {k : Bool → R α} {y : R α → Prop} {σ : L2.St} {H : Hp} {Q : Bool → Hp → Prop} {fp : Nat → List Addr} {fv : Nat → Option V} {ρ : Rho} (I : LSR G fp fv σ H ρ) (q : y ((f ρ).bind k))
    (hx : ∀ e, y (.ex e) → ∀ H', Same H H' → W (.ref (G.cls e)) none σ H') (hb : ¬ y .bad)
    (hk : ∀ b, y (k b) → ∀ H', Same H H' → Q b H') : tT G W f σ H Q := by
  refine ⟨fp, fv, ρ, I, ?_⟩
  cases h : f ρ with
  | ok r =>
    rw [h] at q
    exact hk r q
  | ex e =>
    rw [h] at q
    exact hx e q
  | bad =>
    rw [h] at q
    exact hb q
/-- what an end asks -/
abbrev yE (G : Cts) (W : WX) (fp : Nat → List Addr) (σ : L2.St) (H : Hp) (Q : VK) : R (D × Md) → Prop
  | .ok (d, m) => ∀ v H', Same H H' → VOk G fp H H' m d v → Q v H'
  | .ex e => ∀ H', Same H H' → W (.ref (G.cls e)) none σ H'
  | .bad => False
abbrev yA (G : Cts) (W : WX) (fp : Nat → List Addr) (σ : L2.St) (H : Hp) (Q : List V → Hp → Prop) : R (List D × Md) → Prop
  | .ok (d, m) => ∀ v H', Same H H' → VsOk G fp H H' m d v → Q v H'
  | .ex e => ∀ H', Same H H' → W (.ref (G.cls e)) none σ H'
  | .bad => False
abbrev yT (G : Cts) (W : WX) (σ : L2.St) (H : Hp) (Q : Bool → Hp → Prop) : R Bool → Prop
  | .ok b => ∀ H', Same H H' → Q b H'
  | .ex e => ∀ H', Same H H' → W (.ref (G.cls e)) none σ H'
  | .bad => False

/-! ### arguments -/
def eNil : EA := fun _ => .ok ([], .fr)
def eCons (f : E) (g : EA) : EA := fun ρ => (f ρ).bind fun a => (g ρ).bind fun b => .ok (a.1 :: b.1, Md.jn (md a.1 a.2) b.2)
theorem px_nil : PA X [] (tA G W eNil) := PA.of pa_nil fun σ H Q ⟨fp, fv, ρ, I, q⟩ => q [] H (Same.refl H) ⟨[], ⟨rfl, rfl⟩, List.nodup_nil, fun _ z => by cases z⟩
theorem px_cons {e : Expr} {es : List Expr} {f : E} {g : EA} (h : PE X e (tE G W f)) (hs : PA X es (tA G W g)) (hst : starEach (e :: es) X.env = (false, eval e X.env) :: starEach es X.env := by rfl) : PA X (e :: es) (tA G W (eCons f g)) := by
  refine PA.of (pa_cons h hs hst) fun σ H Q ⟨fp, fv, ρ, I, q⟩ => ?_
  refine tE.of_bind (y := yA G W fp σ H Q) I q (fun e h => h) (fun h => h) fun d m q v H1 e1 v1 => ?_
  have I1 := I.same e1
  refine tA.of_bind (y := yA G W fp σ H Q) I1 q (fun e h H' e' => h H' (e1.trans e')) (fun h => h) fun ds n q vs H2 e2 v2 => ?_
  exact q (v :: vs) H2 (e1.trans e2) (VsOk.cons I e1 e2 v1.nrm v2)

/-! ### displays -/
def eTup (g : EA) : E := fun ρ => (g ρ).bind fun a => if a.1.length ≤ 1000000 then .ok (.tup a.1, a.2) else .bad
def eLst (g : EA) : E := fun ρ => (g ρ).bind fun a => if a.1.length ≤ 1000000 then .ok (.lst a.1, a.2) else .bad
/-- a new tuple -/
theorem VsOk.tup {fp : Nat → List Addr} {H H1 : Hp} {m : Md} {ds : List D} {vs : List V} {p : Addr} (h : VsOk G fp H H1 m ds vs) (hp : H1 p = none) : VOk G fp H (upd H1 p (.tup vs)) m (.tup ds) (.ref p) := by
  have e : Same H1 (upd H1 p (.tup vs)) := same_new hp
  cases m with
  | fr =>
    obtain ⟨f, a, b, c⟩ := h
    exact ⟨f, ⟨p, vs, rfl, SqT.of upd_same, a.same e⟩, b, c⟩
  | sh => exact ⟨p, vs, rfl, SqT.of upd_same, Reps.same e h⟩
  | tr => exact ⟨p, vs, rfl, SqT.of upd_same, Reps.same e h⟩
theorem Freshs.lst {H H1 : Hp} {ds : List D} {vs : List V} {p : Addr} (e1 : Same H H1) (h : Freshs G H H1 ds vs) (hp : H1 p = none) : Fresh G H (upd H1 p (.lst vs)) (.lst ds) (.ref p) := by
  have e : Same H1 (upd H1 p (.lst vs)) := same_new hp
  obtain ⟨f, a, b, c⟩ := h
  refine ⟨p :: f, ⟨p, vs, f, rfl, rfl, upd_same, a.same e⟩, List.nodup_cons.mpr ⟨fun hm => ?_, b⟩, fun x hx => ?_⟩
  · obtain ⟨o, q, _⟩ := OTs.there ds vs f a p hm
    rw [hp] at q
    cases q
  · rcases List.mem_cons.mp hx with rfl | hx
    · exact e1.free hp
    · exact c x hx
theorem VsOk.lst {fp : Nat → List Addr} {fv : Nat → Option V} {σ : L2.St} {ρ : Rho} {H H1 : Hp} {m : Md} {ds : List D} {vs : List V} {p : Addr} (I : LSR G fp fv σ H ρ) (e1 : Same H H1) (h : VsOk G fp H H1 m ds vs) (hp : H1 p = none) : VOk G fp H (upd H1 p (.lst vs)) m (.lst ds) (.ref p) := by
  have e : Same H1 (upd H1 p (.lst vs)) := same_new hp
  cases m with
  | fr => exact Freshs.lst e1 h hp
  | sh =>
    refine ⟨p, vs, rfl, fun ⟨i, z⟩ => ?_, upd_same, Reps.same e h⟩
    obtain ⟨o, q⟩ := I.al i p z
    rw [e1.free hp] at q
    cases q
  | tr => exact ⟨p, vs, rfl, fun z => z, upd_same, Reps.same e h⟩
theorem px_tup {es : List Expr} {k : Nat} {pos : Pos} {g : EA} (h : PA X es (tA G W g)) : PE X (.Tuple es k pos) (tE G W (eTup g)) := by
  refine PE.of (pe_tup h) fun σ H Q ⟨fp, fv, ρ, I, q⟩ => ?_
  refine tA.of_bind (y := yE G W fp σ H Q) I q (fun e h => h) (fun h => h) fun ds m q vs H1 e1 v1 => ?_
  by_cases hl : ds.length ≤ 1000000
  · rw [if_pos hl] at q
    rw [v1.length] at hl
    exact ⟨line_big hl, fun p hp => q _ _ (e1.trans (same_new hp)) (v1.tup hp)⟩
  · rw [if_neg hl] at q
    exact q.elim
theorem px_lst {es : List Expr} {pos : Pos} {g : EA} (h : PA X es (tA G W g)) : PE X (.List es pos) (tE G W (eLst g)) := by
  refine PE.of (pe_lst h) fun σ H Q ⟨fp, fv, ρ, I, q⟩ => ?_
  refine tA.of_bind (y := yE G W fp σ H Q) I q (fun e h => h) (fun h => h) fun ds m q vs H1 e1 v1 => ?_
  by_cases hl : ds.length ≤ 1000000
  · rw [if_pos hl] at q
    rw [v1.length] at hl
    exact ⟨line_big hl, fun p hp => q _ _ (e1.trans (same_new hp)) (v1.lst I e1 hp)⟩
  · rw [if_neg hl] at q
    exact q.elim

/-! ### tests -/
def tOf (f : E) : T := fun ρ => (f ρ).bind fun a => match a.1 with
  | .bl b => .ok b
  | _ => .bad
theorem tT.test {f : E} {t : TE} (k : ∀ σ H Q, tE G W f σ H Q → t σ H Q) {σ : L2.St} {H : Hp} {Q : Bool → Hp → Prop} (h : tT G W (tOf f) σ H Q) : t σ H fun x H' => ∃ b, x = .bl b ∧ Q b H' := by
  obtain ⟨fp, fv, ρ, I, q⟩ := h
  refine k _ _ _ (tE.of_bind (y := yT G W σ H Q) I q (fun e h => h) (fun h => h) fun d m q v H1 e1 v1 => ?_)
  cases d with
  | bl b => exact ⟨b, v1.tr, q H1 e1⟩
  | _ => exact q.elim
theorem pt_of_cmp {a b : Expr} {pos : Pos} {o : CmpOp} {op : D → D → Option D} {r : R2} {f g : E} (hr : OpR X (compareOp o) r) (ho : Op2 G r op) (ha : PE X a (tE G W f)) (hb : PE X b (tE G W g)) (hm : behindInMarks o b = false) :
    PT X (.Compare a [o] [b] pos) (tT G W (tOf (eBin op f g))) := PT.of (pt_cmpR hr ha hb hm) fun _ _ _ h => tT.test (fun _ _ _ => tE.bin ho) h
theorem pt_of {e : Expr} {f : E} (h : PE X e (tE G W f)) (he : ∀ whole, isTrue e X.env whole = (do let v ← whole; standAt e.pos; holding [v] (truthy v)) := by intro _; rfl) : PT X e (tT G W (tOf f)) :=
  PT.of (pt_val h he) fun _ _ _ h => tT.test (fun _ _ _ z => z) h
/-- truth of any value -/
def truD : D → Option Bool
  | .non => some false
  | .bl b => some b
  | .int i => some (i != 0)
  | .str s => if s.length ≤ 1000000 then some (s.length != 0) else none
  | .tup ds => some (!ds.isEmpty)
  | .lst ds => some (!ds.isEmpty)
  | .dct _ _ => none
  | .obj _ _ _ => none
  | .scr ns => some (!ns.isEmpty)
  | .ty _ => none
  | .cls _ => none
theorem Reps.empty {av : Addr → Prop} {H : Hp} : ∀ {ds : List D} {vs : List V}, Reps G av H ds vs → ds.isEmpty = vs.isEmpty
  | [], _, h => by
    obtain rfl : _ = [] := h
    rfl
  | d :: ds, _, ⟨v, r, e, _, _⟩ => by
    subst e
    rfl
theorem truV_of {d : D} {v : V} {H : Hp} {b : Bool} (h : Rep G Nav H d v) (e : truD d = some b) : TruV G.K v H b := by
  cases d with
  | non =>
    obtain rfl : v = .non := h
    exact (Option.some.inj e).symm
  | bl c =>
    obtain rfl : v = .bl c := h
    exact (Option.some.inj e).symm
  | int i =>
    obtain rfl : v = .int i := h
    exact (Option.some.inj e).symm
  | str s =>
    obtain rfl : v = .str s := h
    by_cases hl : s.length ≤ 1000000
    · simp only [truD, if_pos hl] at e
      refine ⟨line_big hl, ?_⟩
      rw [← Option.some.inj e]
      by_cases z : s.length = 0
      · rw [z]
        rfl
      · rw [(bne_iff_ne (a := s.length) (b := 0)).mpr z]
        exact ((bne_iff_ne (a := (s.length : Int)) (b := 0)).mpr (by omega)).symm
    · simp only [truD, if_neg hl] at e
      cases e
  | tup ds =>
    obtain ⟨a, vs, rfl, s, r⟩ := h
    refine .inr (.inl ⟨vs, s, ?_⟩)
    rw [← r.empty]
    exact (Option.some.inj e).symm
  | lst ds =>
    obtain ⟨a, vs, rfl, _, s, r⟩ := h
    refine .inl ⟨vs, SqL.of s, ?_⟩
    rw [← r.empty]
    exact (Option.some.inj e).symm
  | dct _ _ => cases e
  | obj _ _ _ => cases e
  | scr ns =>
    obtain ⟨a, rfl, s⟩ := h
    refine .inl ⟨_, s.seq, ?_⟩
    have e' : (!ns.isEmpty) = b := Option.some.inj e
    rw [← e']
    cases ns <;> rfl
  | ty _ => cases e
  | cls _ => cases e
def tTru (f : E) : T := fun ρ => (f ρ).bind fun a => R.opt (truD a.1)
theorem pt_tru {e : Expr} {f : E} (h : PE X e (tE G W f)) (hK : X.K = G.K := by rfl) (he : ∀ whole, isTrue e X.env whole = (do let v ← whole; standAt e.pos; holding [v] (truthy v)) := by intro _; rfl) : PT X e (tT G W (tTru f)) := by
  refine PT.of (pt_truth h he) fun σ H Q ⟨fp, fv, ρ, I, q⟩ => ?_
  refine tE.of_bind (y := yT G W σ H Q) I q (fun e h => h) (fun h => h) fun d m q v H1 e1 v1 => ?_
  cases z : truD d with
  | none =>
    simp only [z, R.opt] at q
    exact q.elim
  | some b =>
    simp only [z, R.opt] at q
    rw [hK]
    exact ⟨b, truV_of v1.tr z, q H1 e1⟩
def tAnd' (f g : T) : T := fun ρ => (f ρ).bind fun b => if b = true then g ρ else .ok false
def tOr' (f g : T) : T := fun ρ => (f ρ).bind fun b => if b = true then .ok true else g ρ
def tNot' (f : T) : T := fun ρ => (f ρ).bind fun b => .ok (!b)
theorem pw_of1 {a : Expr} {pos : Pos} {f : T} (h : PT X a (tT G W f)) : PW X (.BoolOp .And [a] pos) (tT G W f) := pw_and1 h
theorem pw_of1o {a : Expr} {pos : Pos} {f : T} (h : PT X a (tT G W f)) : PW X (.BoolOp .Or [a] pos) (tT G W f) := pw_or1 h
theorem pw_ofAnd {a b : Expr} {rest : List Expr} {pos : Pos} {f g : T} (h : PT X a (tT G W f)) (hs : PW X (.BoolOp .And (b :: rest) pos) (tT G W g)) : PW X (.BoolOp .And (a :: b :: rest) pos) (tT G W (tAnd' f g)) := by
  refine PW.of (pw_and h hs) fun σ H Q ⟨fp, fv, ρ, I, q⟩ => ?_
  refine tT.of_bind (y := yT G W σ H Q) I q (fun e h => h) (fun h => h) fun b q H1 e1 => ?_
  cases b with
  | true =>
    refine iteT ⟨fp, fv, ρ, I.same e1, ?_⟩
    rw [if_pos rfl] at q
    cases z : g ρ with
    | ok c =>
      rw [z] at q
      exact fun H' e' => q H' (e1.trans e')
    | ex e =>
      rw [z] at q
      exact fun H' e' => q H' (e1.trans e')
    | bad =>
      rw [z] at q
      exact q
  | false =>
    rw [if_neg Bool.false_ne_true] at q
    exact iteF (q H1 e1)
theorem pw_ofOr {a b : Expr} {rest : List Expr} {pos : Pos} {f g : T} (h : PT X a (tT G W f)) (hs : PW X (.BoolOp .Or (b :: rest) pos) (tT G W g)) : PW X (.BoolOp .Or (a :: b :: rest) pos) (tT G W (tOr' f g)) := by
  refine PW.of (pw_or h hs) fun σ H Q ⟨fp, fv, ρ, I, q⟩ => ?_
  refine tT.of_bind (y := yT G W σ H Q) I q (fun e h => h) (fun h => h) fun b q H1 e1 => ?_
  cases b with
  | true =>
    rw [if_pos rfl] at q
    exact iteT (q H1 e1)
  | false =>
    refine iteF ⟨fp, fv, ρ, I.same e1, ?_⟩
    rw [if_neg Bool.false_ne_true] at q
    cases z : g ρ with
    | ok c =>
      rw [z] at q
      exact fun H' e' => q H' (e1.trans e')
    | ex e =>
      rw [z] at q
      exact fun H' e' => q H' (e1.trans e')
    | bad =>
      rw [z] at q
      exact q
theorem pt_ofNot {a : Expr} {pos : Pos} {f : T} (h : PT X a (tT G W f)) : PT X (.UnaryOp .Not a pos) (tT G W (tNot' f)) := by
  refine PT.of (pt_not h) fun σ H Q ⟨fp, fv, ρ, I, q⟩ => ?_
  exact tT.of_bind (y := yT G W σ H Q) I q (fun e h => h) (fun h => h) fun b q H1 e1 => q H1 e1
/-- a if t else b -/
def eIf (t : T) (f g : E) : E := fun ρ => (t ρ).bind fun b => if b = true then f ρ else g ρ
theorem yE.back {fp : Nat → List Addr} {σ : L2.St} {H H1 : Hp} {Q : VK} {r : R (D × Md)} (e1 : Same H H1) (q : yE G W fp σ H Q r) : yE G W fp σ H1 Q r := by
  cases r with
  | ok r => exact fun v H' e' v' => q v H' (e1.trans e') (v'.back e1)
  | ex e => exact fun H' e' => q H' (e1.trans e')
  | bad => exact q
theorem px_if {c a b : Expr} {pos : Pos} {t : T} {f g : E} (hc : PT X c (tT G W t)) (ha : PE X a (tE G W f)) (hb : PE X b (tE G W g)) : PE X (.IfExp c a b pos) (tE G W (eIf t f g)) := by
  refine PE.of (pe_ifExp hc ha hb) fun σ H Q ⟨fp, fv, ρ, I, q⟩ => ?_
  refine tT.of_bind (y := yE G W fp σ H Q) I q (fun e h => h) (fun h => h) fun b q H1 e1 => ?_
  cases b with
  | true =>
    rw [if_pos rfl] at q
    exact iteT ⟨fp, fv, ρ, I.same e1, yE.back e1 q⟩
  | false =>
    rw [if_neg Bool.false_ne_true] at q
    exact iteF ⟨fp, fv, ρ, I.same e1, yE.back e1 q⟩
/-- and, or, not of truths as values -/
def eB (t : T) : E := fun ρ => (t ρ).bind fun b => .ok (.bl b, .fr)
def blD : D → Option Bool
  | .bl b => some b
  | _ => none
def eAndV (f g : E) : E := fun ρ => (f ρ).bind fun a => match a.1 with
  | .bl true => g ρ
  | .bl false => .ok (.bl false, .fr)
  | _ => .bad
def eOrV (f g : E) : E := fun ρ => (f ρ).bind fun a => match a.1 with
  | .bl true => .ok (.bl true, .fr)
  | .bl false => g ρ
  | _ => .bad
def eNotV (f : E) : E := fun ρ => (f ρ).bind fun a => match a.1 with
  | .bl b => .ok (.bl (!b), .fr)
  | _ => .bad
theorem fr_bl {H H' : Hp} {b : Bool} {fp : Nat → List Addr} : VOk G fp H H' .fr (.bl b) (.bl b) := ⟨[], ⟨rfl, rfl⟩, List.nodup_nil, fun _ z => by cases z⟩
theorem px_one {o : BoolOp} {a : Expr} {pos : Pos} {f : E} (h : PE X a (tE G W f)) : PE X (.BoolOp o [a] pos) (tE G W f) := pe_one h
theorem px_and {a b : Expr} {rest : List Expr} {pos : Pos} {f g : E} (h : PE X a (tE G W f)) (hs : PE X (.BoolOp .And (b :: rest) pos) (tE G W g)) : PE X (.BoolOp .And (a :: b :: rest) pos) (tE G W (eAndV f g)) := by
  refine PE.of (pe_and h hs) fun σ H Q ⟨fp, fv, ρ, I, q⟩ => ?_
  refine tE.of_bind (y := yE G W fp σ H Q) I q (fun e h => h) (fun h => h) fun d m q v H1 e1 v1 => ?_
  cases d with
  | bl b =>
    refine ⟨b, v1.tr, ?_⟩
    cases b with
    | true => exact iteT ⟨fp, fv, ρ, I.same e1, yE.back e1 q⟩
    | false => exact iteF (q _ H1 e1 fr_bl)
  | _ => exact q.elim
theorem px_or {a b : Expr} {rest : List Expr} {pos : Pos} {f g : E} (h : PE X a (tE G W f)) (hs : PE X (.BoolOp .Or (b :: rest) pos) (tE G W g)) : PE X (.BoolOp .Or (a :: b :: rest) pos) (tE G W (eOrV f g)) := by
  refine PE.of (pe_or h hs) fun σ H Q ⟨fp, fv, ρ, I, q⟩ => ?_
  refine tE.of_bind (y := yE G W fp σ H Q) I q (fun e h => h) (fun h => h) fun d m q v H1 e1 v1 => ?_
  cases d with
  | bl b =>
    refine ⟨b, v1.tr, ?_⟩
    cases b with
    | true => exact iteT (q _ H1 e1 fr_bl)
    | false => exact iteF ⟨fp, fv, ρ, I.same e1, yE.back e1 q⟩
  | _ => exact q.elim
theorem px_not {a : Expr} {pos : Pos} {f : E} (h : PE X a (tE G W f)) : PE X (.UnaryOp .Not a pos) (tE G W (eNotV f)) := by
  refine PE.of (pe_not h) fun σ H Q ⟨fp, fv, ρ, I, q⟩ => ?_
  refine tE.of_bind (y := yE G W fp σ H Q) I q (fun e h => h) (fun h => h) fun d m q v H1 e1 v1 => ?_
  cases d with
  | bl b => exact ⟨b, v1.tr, q _ H1 e1 fr_bl⟩
  | _ => exact q.elim
/-- a op b op' c -/
def eChain (o o' : D → D → Option D) (f g h : E) : E := fun ρ => (f ρ).bind fun a => (g ρ).bind fun b => (R.opt (o a.1 b.1)).bind fun c => match c with
  | .bl true => (h ρ).bind fun d => (R.opt (o' b.1 d.1)).bind fun z => .ok (z, .fr)
  | .bl false => .ok (.bl false, .fr)
  | _ => .bad
theorem tE.chain {o o' : D → D → Option D} {r r' : R2} (ho : Op2 G r o) (ho' : Op2 G r' o') {f g h : E} {σ : L2.St} {H : Hp} {Q : VK} (w : tE G W (eChain o o' f g h) σ H Q) : tChain r r' (tE G W f) (tE G W g) (tE G W h) σ H Q := by
  obtain ⟨fp, fv, ρ, I, q⟩ := w
  refine tE.of_bind (y := yE G W fp σ H Q) I q (fun e h => h) (fun h => h) fun d m q v H1 e1 v1 => ?_
  have I1 := I.same e1
  refine tE.of_bind (y := yE G W fp σ H Q) I1 q (fun e h H' e' => h H' (e1.trans e')) (fun h => h) fun d2 m2 q v2 H2 e2 v2' => ?_
  have I2 := I1.same e2
  have e12 := e1.trans e2
  cases z : o d d2 with
  | none =>
    simp only [z, R.opt, R.bind] at q
    exact q.elim
  | some c =>
    simp only [z, R.opt, R.bind] at q
    refine ho v v2 d d2 H2 (v1.same e2).tr v2'.tr c z _ fun v3 H3 e3 fr3 => ?_
    have e13 := e12.trans e3
    have r3 : Rep G Nav H3 c v3 := fr3.rep fun _ z => z.elim
    cases c with
    | bl b =>
      refine ⟨b, r3, ?_⟩
      cases b with
      | true =>
        refine iteT ?_
        refine tE.of_bind (y := yE G W fp σ H Q) (I2.same e3) q (fun e h H' e' => h H' (e13.trans e')) (fun h => h) fun d4 m4 q v4 H4 e4 w4 => ?_
        cases z' : o' d2 d4 with
        | none =>
          simp only [z', R.opt, R.bind] at q
          exact q.elim
        | some c' =>
          simp only [z', R.opt, R.bind] at q
          exact ho' v2 v4 d2 d4 H4 ((v2'.same e3).same e4).tr w4.tr c' z' Q fun v5 H5 e5 fr5 => q v5 H5 ((e13.trans e4).trans e5) (fr5.back (e13.trans e4))
      | false => exact iteF (q _ H3 e13 fr_bl)
    | _ => exact q.elim
theorem px_chain {op op' : CmpOp} {r r' : R2} {o o' : D → D → Option D} {a b c : Expr} {pos : Pos} {f g h : E} (hr : OpR X (compareOp op) r) (ho : Op2 G r o) (hr' : OpR X (compareOp op') r') (ho' : Op2 G r' o')
    (ha : PE X a (tE G W f)) (hb : PE X b (tE G W g)) (hc : PE X c (tE G W h)) (hm : lastMarks [op, op'] [b, c] = false := by with_unfolding_all rfl) : PE X (.Compare a [op, op'] [b, c] pos) (tE G W (eChain o o' f g h)) :=
  PE.of (pe_chain hr hr' ha hb hc hm) fun _ _ _ w => tE.chain ho ho' w
theorem pt_ofChain {op op' : CmpOp} {r r' : R2} {o o' : D → D → Option D} {a b c : Expr} {pos : Pos} {f g h : E} (hr : OpR X (compareOp op) r) (ho : Op2 G r o) (hr' : OpR X (compareOp op') r') (ho' : Op2 G r' o')
    (ha : PE X a (tE G W f)) (hb : PE X b (tE G W g)) (hc : PE X c (tE G W h)) (hm : lastMarks [op, op'] [b, c] = false := by with_unfolding_all rfl) : PT X (.Compare a [op, op'] [b, c] pos) (tT G W (tOf (eChain o o' f g h))) :=
  PT.of (pt_chain hr hr' ha hb hc hm) fun _ _ _ w => tT.test (fun _ _ _ => tE.chain ho ho') w
end
end Dn
set_option Elab.async false
set_option linter.all false
set_option maxRecDepth 100000
set_option maxHeartbeats 2000000
/-! Dn4: statements, loops. -/
namespace Dn
open PySem L2

/-- all slots, and what a def has to keep: H0 its entry, io what it may change -/
structure FSR (G : Cts) (H0 : Hp) (io : Addr → Prop) (fp : Nat → List Addr) (fv : Nat → Option V) (σ : L2.St) (H : Hp) (ρ : Rho) : Prop where
  l : LSR G fp fv σ H ρ
  keep : ∀ a o, ¬ io a → H0 a = some o → H a = some o
  tk : Tk G H0 H
  src : ∀ i, ∀ a ∈ fp i, io a ∨ H0 a = none

inductive SO where
  | nx (ρ : Rho)
  | ct (ρ : Rho)
  | bk (ρ : Rho)
  | rt (d : D) (ρ : Rho)
  | ex (e : Nat) (ρ : Rho)
  | bad
abbrev S := Rho → SO

def RtOk (G : Cts) (H0 : Hp) (io : Addr → Prop) (fv : Nat → Option V) (ρ : Rho) (d : D) (v : V) (H : Hp) : Prop :=
  ∃ σ fp f, FSR G H0 io fp fv σ H ρ ∧ OT G H d v f ∧ f.Nodup ∧ ∀ a ∈ f, (io a ∨ H0 a = none) ∧ ∀ i, a ∉ fp i
def SK (G : Cts) (W : WX) (H0 : Hp) (io : Addr → Prop) (fv : Nat → Option V) (D' : Ends) : SO → Prop
  | .nx ρ => ∀ σ H fp, FSR G H0 io fp fv σ H ρ → D'.nx σ H
  | .ct ρ => ∀ σ H fp, FSR G H0 io fp fv σ H ρ → D'.ct σ H
  | .bk ρ => ∀ σ H fp, FSR G H0 io fp fv σ H ρ → D'.bk σ H
  | .rt d ρ => ∀ v H, RtOk G H0 io fv ρ d v H → D'.rt v H
  | .ex e ρ => ∀ σ H fp, FSR G H0 io fp fv σ H ρ → W (.ref (G.cls e)) none σ H
  | .bad => False
def tS (G : Cts) (W : WX) (f : S) : TS := fun D' σ H => ∃ H0 io fp fv ρ, FSR G H0 io fp fv σ H ρ ∧ SK G W H0 io fv D' (f ρ)

section
variable {G : Cts} {W : WX} {H0 H H' H1 : Hp} {io : Addr → Prop} {fp fp' : Nat → List Addr} {fv : Nat → Option V} {σ σ' : L2.St} {ρ ρ' : Rho}
theorem FSR.same (I : FSR G H0 io fp fv σ H ρ) (e : Same H H') : FSR G H0 io fp fv σ H' ρ := ⟨I.l.same e, fun a o n h => e a o (I.keep a o n h), I.tk.trans (tk_same e), I.src⟩
theorem FSR.fresh (I : FSR G H0 io fp fv σ H ρ) {a : Addr} (h : H a = none) : io a ∨ H0 a = none := by
  by_cases n : io a
  · exact .inl n
  · refine .inr ?_
    cases q : H0 a with
    | none => rfl
    | some o =>
      rw [I.keep a o n q] at h
      cases h
/-- what was reached from a later start -/
theorem FSR.trans (I : FSR G H0 io fp fv σ H ρ) (e : Same H H1) (J : FSR G H1 (Own fp) fp' fv σ' H' ρ') : FSR G H0 io fp' fv σ' H' ρ' := by
  refine ⟨J.l, fun a o n h => ?_, (I.tk.trans (tk_same e)).trans J.tk, fun i a ha => ?_⟩
  · refine J.keep a o (fun ⟨j, hj⟩ => ?_) (e a o (I.keep a o n h))
    rcases I.src j a hj with z | z
    · exact n z
    · rw [h] at z
      cases z
  · rcases J.src i a ha with ⟨j, hj⟩ | z
    · exact I.src j a hj
    · exact I.fresh (e.free z)
theorem FSR.here (I : LSR G fp fv σ H ρ) : FSR G H (Own fp) fp fv σ H ρ := ⟨I, fun _ _ _ h => h, Tk.refl, fun i a ha => .inl ⟨i, ha⟩⟩
theorem RtOk.trans {d : D} {v : V} (I : FSR G H0 io fp fv σ H ρ) (e : Same H H1) (J : RtOk G H1 (Own fp) fv ρ' d v H') : RtOk G H0 io fv ρ' d v H' := by
  obtain ⟨σ2, fp2, f, J, o, n, s⟩ := J
  refine ⟨σ2, fp2, f, I.trans e J, o, n, fun a ha => ⟨?_, (s a ha).2⟩⟩
  rcases (s a ha).1 with ⟨j, hj⟩ | z
  · exact I.src j a hj
  · exact I.fresh (e.free z)
theorem SK.trans {D' : Ends} {r : SO} (I : FSR G H0 io fp fv σ H ρ) (e : Same H H1) (h : SK G W H0 io fv D' r) : SK G W H1 (Own fp) fv D' r := by
  cases r with
  | nx ρ => exact fun σ' H' fp' J => h σ' H' fp' (I.trans e J)
  | ct ρ => exact fun σ' H' fp' J => h σ' H' fp' (I.trans e J)
  | bk ρ => exact fun σ' H' fp' J => h σ' H' fp' (I.trans e J)
  | rt d ρ => exact fun v H' J => h v H' (J.trans I e)
  | ex x ρ => exact fun σ' H' fp' J => h σ' H' fp' (I.trans e J)
  | bad => exact h

/-! ### a slot is stored -/
def stSl (i : Nat) (d : D) (m : Md) (ρ : Rho) : Option Rho := match ρ[i]? with
  | none => none
  | some (.io _) => none
  | some _ => match m with
    | .fr => if d.imm then some (ρ.set i (.shr d)) else some (ρ.set i (.own d))
    | .sh => some (ρ.set i (.shr d))
    | .tr => none
def upF (fp : Nat → List Addr) (i : Nat) (f : List Addr) : Nat → List Addr := fun j => if j = i then f else fp j
theorem upF_same {i : Nat} {f : List Addr} : upF fp i f i = f := by unfold upF; rw [if_pos rfl]
theorem upF_ne {i j : Nat} {f : List Addr} (h : j ≠ i) : upF fp i f j = fp j := by unfold upF; rw [if_neg h]
theorem SlOk.weak {av av' : Addr → Prop} {f : List Addr} {w : Option (Option V)} {x : Option V} (k : ∀ a, (∃ o, H a = some o) → av' a → av a) : ∀ {s : Sl}, SlOk G av H f w x s → SlOk G av' H f w x s
  | .nil, _ => trivial
  | .shr d, ⟨v, h1, h2⟩ => ⟨v, h1, Rep.weak k d v h2⟩
  | .own d, h => h
  | .io d, h => h
  | .exc _, h => h
/-- the slot i gets another value, its own addresses are f from then on -/
theorem LSR.put (I : LSR G fp fv σ H ρ) (e : Same H H') {i : Nat} {s : Sl} {v : V} {f : List Addr} (hi : i < ρ.length) (hn : f.Nodup) (hf : ∀ a ∈ f, H a = none) (ha : ∀ a ∈ f, ∃ o, H' a = some o)
    (hs : SlOk G (Own (upF fp i f)) H' f (some (some v)) (fv i) s) : LSR G (upF fp i f) fv (σ.set i (some v)) H' (ρ.set i s) := by
  have J := I.same e
  have wk : ∀ a, (∃ o, H a = some o) → Own (upF fp i f) a → Own fp a := fun a ⟨o, q⟩ ⟨j, hj⟩ => by
    by_cases z : j = i
    · subst z
      rw [upF_same] at hj
      rw [hf a hj] at q
      cases q
    · rw [upF_ne z] at hj
      exact ⟨j, hj⟩
  refine ⟨by rw [List.length_set, List.length_set, I.len], fun j => ?_, fun j k hjk a hj hk => ?_, fun j a hj => ?_, fun j t hj => ?_⟩
  · by_cases z : j = i
    · subst z
      rw [upF_same]
      exact hn
    · rw [upF_ne z]
      exact I.nd j
  · by_cases z : j = i
    · subst z
      rw [upF_same] at hj
      rw [upF_ne (Ne.symm hjk)] at hk
      obtain ⟨o, q⟩ := I.al k a hk
      rw [hf a hj] at q
      cases q
    · rw [upF_ne z] at hj
      by_cases z' : k = i
      · subst z'
        rw [upF_same] at hk
        obtain ⟨o, q⟩ := I.al j a hj
        rw [hf a hk] at q
        cases q
      · rw [upF_ne z'] at hk
        exact I.dj j k hjk a hj hk
  · by_cases z : j = i
    · subst z
      rw [upF_same] at hj
      exact ha a hj
    · rw [upF_ne z] at hj
      exact J.al j a hj
  · by_cases z : j = i
    · subst z
      rw [upF_same, List.getElem?_set_self (by rw [I.len]; exact hi)]
      rw [List.getElem?_set_self hi] at hj
      cases hj
      exact hs
    · rw [upF_ne z, List.getElem?_set_ne (Ne.symm z)]
      rw [List.getElem?_set_ne (Ne.symm z)] at hj
      exact ((I.sl j t hj).weak wk).same e
theorem LSR.store (I : LSR G fp fv σ H ρ) (e : Same H H') {i : Nat} {d : D} {m : Md} {v : V} (h : VOk G fp H H' m d v) (hs : stSl i d m ρ = some ρ') :
    ∃ fp', LSR G fp' fv (σ.set i (some v)) H' ρ' ∧ ∀ j a, a ∈ fp' j → a ∈ fp j ∨ H a = none := by
  unfold stSl at hs
  cases q : ρ[i]? with
  | none =>
    rw [q] at hs
    cases hs
  | some s =>
    rw [q] at hs
    have hi : i < ρ.length := (List.getElem?_eq_some_iff.mp q).1
    have sub : ∀ f : List Addr, (∀ a ∈ f, H a = none) → ∀ j a, a ∈ upF fp i f j → a ∈ fp j ∨ H a = none := fun f hf j a ha => by
      by_cases z : j = i
      · subst z
        rw [upF_same] at ha
        exact .inr (hf a ha)
      · rw [upF_ne z] at ha
        exact .inl ha
    have own0 : ∀ a, (∃ o, H' a = some o) → Own (upF fp i []) a → Own fp a := fun a _ ⟨j, hj⟩ => by
      by_cases z : j = i
      · subst z
        rw [upF_same] at hj
        cases hj
      · rw [upF_ne z] at hj
        exact ⟨j, hj⟩
    have shr : Rep G (Own fp) H' d v → ∃ fp', LSR G fp' fv (σ.set i (some v)) H' (ρ.set i (.shr d)) ∧ ∀ j a, a ∈ fp' j → a ∈ fp j ∨ H a = none := fun r =>
      ⟨upF fp i [], I.put e hi List.nodup_nil (fun _ z => by cases z) (fun _ z => by cases z) ⟨v, rfl, Rep.weak own0 d v r⟩, sub [] fun _ z => by cases z⟩
    have main : ∀ ρ'', (match m with
        | .fr => if d.imm then some (ρ.set i (.shr d)) else some (ρ.set i (.own d))
        | .sh => some (ρ.set i (.shr d))
        | .tr => none) = some ρ'' → ∃ fp', LSR G fp' fv (σ.set i (some v)) H' ρ'' ∧ ∀ j a, a ∈ fp' j → a ∈ fp j ∨ H a = none := fun ρ'' hm => by
      cases m with
      | fr =>
        by_cases im : d.imm = true
        · simp only [im, if_true] at hm
          cases hm
          exact shr (VOk.sh I (fun z => by cases z) h)
        · simp only [im] at hm
          cases hm
          obtain ⟨f, a1, a2, a3⟩ := h
          exact ⟨upF fp i f, I.put e hi a2 a3 (fun a ha => let ⟨o, q, _⟩ := OT.there d v f a1 a ha; ⟨o, q⟩) ⟨v, rfl, a1⟩, sub f a3⟩
      | sh =>
        cases hm
        exact shr h
      | tr => cases hm
    cases s with
    | io _ => cases hs
    | exc _ => exact main _ hs
    | nil => exact main _ hs
    | shr _ => exact main _ hs
    | own _ => exact main _ hs
theorem FSR.store (I : FSR G H0 io fp fv σ H ρ) (e : Same H H') {i : Nat} {d : D} {m : Md} {v : V} (h : VOk G fp H H' m d v) (hs : stSl i d m ρ = some ρ') : ∃ fp', FSR G H0 io fp' fv (σ.set i (some v)) H' ρ' := by
  obtain ⟨fp', J, k⟩ := I.l.store e h hs
  refine ⟨fp', J, (I.same e).keep, (I.same e).tk, fun j a ha => ?_⟩
  rcases k j a ha with z | z
  · exact I.src j a z
  · exact I.fresh z
/-- what a slot owns is changed in place -/
theorem LSR.mut (I : LSR G fp fv σ H ρ) {i : Nat} {s : Sl} {f : List Addr} (hi : i < ρ.length) (k : ∀ a o, a ∉ fp i → H a = some o → H' a = some o) (t : Tk G H H') (hn : f.Nodup) (hf : ∀ a ∈ f, a ∈ fp i ∨ H a = none)
    (ha : ∀ a ∈ f, ∃ o, H' a = some o) (hs : SlOk G (Own (upF fp i f)) H' f (σ[i]?) (fv i) s) : LSR G (upF fp i f) fv σ H' (ρ.set i s) := by
  have wk : ∀ a, (∃ o, H a = some o) → Own (upF fp i f) a → Own fp a := fun a ⟨o, q⟩ ⟨j, hj⟩ => by
    by_cases z : j = i
    · subst z
      rw [upF_same] at hj
      rcases hf a hj with w | w
      · exact ⟨j, w⟩
      · rw [w] at q
        cases q
    · rw [upF_ne z] at hj
      exact ⟨j, hj⟩
  have apart : ∀ j a, j ≠ i → a ∈ fp j → a ∉ f := fun j a z hj hm => by
    rcases hf a hm with w | w
    · exact I.dj j i z a hj w
    · obtain ⟨o, q⟩ := I.al j a hj
      rw [w] at q
      cases q
  refine ⟨by rw [List.length_set, I.len], fun j => ?_, fun j l hjl a hj hl => ?_, fun j a hj => ?_, fun j u hj => ?_⟩
  · by_cases z : j = i
    · subst z
      rw [upF_same]
      exact hn
    · rw [upF_ne z]
      exact I.nd j
  · by_cases z : j = i
    · subst z
      rw [upF_same] at hj
      rw [upF_ne (Ne.symm hjl)] at hl
      exact apart l a (Ne.symm hjl) hl hj
    · rw [upF_ne z] at hj
      by_cases z' : l = i
      · subst z'
        rw [upF_same] at hl
        exact apart j a z hj hl
      · rw [upF_ne z'] at hl
        exact I.dj j l hjl a hj hl
  · by_cases z : j = i
    · subst z
      rw [upF_same] at hj
      exact ha a hj
    · rw [upF_ne z] at hj
      obtain ⟨o, q⟩ := I.al j a hj
      exact ⟨o, k a o (I.dj j i z a hj) q⟩
  · by_cases z : j = i
    · subst z
      rw [upF_same]
      rw [List.getElem?_set_self hi] at hj
      cases hj
      exact hs
    · rw [upF_ne z]
      rw [List.getElem?_set_ne (Ne.symm z)] at hj
      have old := I.sl j u hj
      have eqs : ∀ a ∈ fp j, H' a = H a := fun a hm => by
        obtain ⟨o, q⟩ := I.al j a hm
        rw [q, k a o (I.dj j i z a hm) q]
      cases u with
      | nil => exact trivial
      | shr d =>
        obtain ⟨v, h1, h2⟩ := old
        have r1 : Rep G (fun a => Own fp a ∨ Own (upF fp i f) a) H d v := Rep.weak (fun a o z => z.elim id (wk a o)) d v h2
        have r2 : Rep G (fun a => Own fp a ∨ Own (upF fp i f) a) H' d v := Rep.ext t (fun a o n q => k a o (fun m => n (.inl ⟨i, m⟩)) q) d v r1
        exact ⟨v, h1, Rep.weak (fun a _ z => .inr z) d v r2⟩
      | own d =>
        obtain ⟨v, h1, h2⟩ := old
        exact ⟨v, h1, OT.ext t d v (fp j) eqs h2⟩
      | io d =>
        obtain ⟨v, h1, h3, h2⟩ := old
        exact ⟨v, h1, h3, OT.ext t d v (fp j) eqs h2⟩
      | exc _ => exact old
theorem FSR.mut (I : FSR G H0 io fp fv σ H ρ) {i : Nat} {s : Sl} {f : List Addr} (hi : i < ρ.length) (k : ∀ a o, a ∉ fp i → H a = some o → H' a = some o) (t : Tk G H H') (hn : f.Nodup) (hf : ∀ a ∈ f, a ∈ fp i ∨ H a = none)
    (ha : ∀ a ∈ f, ∃ o, H' a = some o) (hs : SlOk G (Own (upF fp i f)) H' f (σ[i]?) (fv i) s) : FSR G H0 io (upF fp i f) fv σ H' (ρ.set i s) := by
  refine ⟨I.l.mut hi k t hn hf ha hs, fun a o n h => ?_, I.tk.trans t, fun j a hj => ?_⟩
  · refine k a o (fun m => ?_) (I.keep a o n h)
    rcases I.src i a m with z | z
    · exact n z
    · rw [h] at z
      cases z
  · by_cases z : j = i
    · subst z
      rw [upF_same] at hj
      rcases hf a hj with w | w
      · exact I.src j a w
      · exact I.fresh w
    · rw [upF_ne z] at hj
      exact I.src j a hj
end

/-! ### statements -/
section
variable {X : Cx} {G : Cts} {W : WX}
theorem tE.st {f : E} {y : R (D × Md) → Prop} {H0 H : Hp} {io : Addr → Prop} {fp : Nat → List Addr} {fv : Nat → Option V} {σ : L2.St} {ρ : Rho} {Q : VK} (I : FSR G H0 io fp fv σ H ρ) (q : y (f ρ))
    (hx : ∀ e, y (.ex e) → ∀ σ H fp, FSR G H0 io fp fv σ H ρ → W (.ref (G.cls e)) none σ H) (hb : ¬ y .bad)
    (hk : ∀ d m, y (.ok (d, m)) → ∀ v H', Same H H' → VOk G fp H H' m d v → Q v H') : tE G W f σ H Q := by
  refine ⟨fp, fv, ρ, I.l, ?_⟩
  cases h : f ρ with
  | ok r =>
    rw [h] at q
    exact hk r.1 r.2 q
  | ex e =>
    rw [h] at q
    exact fun H' e' => hx e q σ H' fp (I.same e')
  | bad =>
    rw [h] at q
    exact hb q
theorem tT.st {f : T} {y : R Bool → Prop} {H0 H : Hp} {io : Addr → Prop} {fp : Nat → List Addr} {fv : Nat → Option V} {σ : L2.St} {ρ : Rho} {Q : Bool → Hp → Prop} (I : FSR G H0 io fp fv σ H ρ) (q : y (f ρ))
    (hx : ∀ e, y (.ex e) → ∀ σ H fp, FSR G H0 io fp fv σ H ρ → W (.ref (G.cls e)) none σ H) (hb : ¬ y .bad)
    (hk : ∀ b, y (.ok b) → ∀ H', Same H H' → Q b H') : tT G W f σ H Q := by
  refine ⟨fp, fv, ρ, I.l, ?_⟩
  cases h : f ρ with
  | ok r =>
    rw [h] at q
    exact hk r q
  | ex e =>
    rw [h] at q
    exact fun H' e' => hx e q σ H' fp (I.same e')
  | bad =>
    rw [h] at q
    exact hb q
def fSeq (f g : S) : S := fun ρ => match f ρ with
  | .nx ρ' => g ρ'
  | o => o
def fPass : S := fun ρ => .nx ρ
theorem px_seq {st : Stmt} {rest : List Stmt} {f g : S} (h : PS X st (tS G W f)) (hs : PSs X rest (tS G W g)) : PSs X (st :: rest) (tS G W (fSeq f g)) := by
  refine PSs.of (pss_cons h hs) fun D' σ H ⟨H0, io, fp, fv, ρ, I, q⟩ => ⟨H0, io, fp, fv, ρ, I, ?_⟩
  unfold fSeq at q
  cases z : f ρ with
  | nx ρ' =>
    rw [z] at q
    exact fun σ' H' fp' J => ⟨H0, io, fp', fv, ρ', J, q⟩
  | ct ρ' =>
    rw [z] at q
    exact q
  | bk ρ' =>
    rw [z] at q
    exact q
  | rt d ρ' =>
    rw [z] at q
    exact q
  | ex e ρ' =>
    rw [z] at q
    exact q
  | bad =>
    rw [z] at q
    exact q
theorem px_one' {st : Stmt} {f : S} (h : PS X st (tS G W f)) : PSs X [st] (tS G W f) := pss_one h
theorem px_pnil : PSs X [] (tS G W fPass) := PSs.of pss_nil fun D' σ H ⟨H0, io, fp, fv, ρ, I, q⟩ => q σ H fp I
theorem px_pass {pos : Pos} : PS X (.Pass pos) (tS G W fPass) := PS.of ps_pass fun D' σ H ⟨H0, io, fp, fv, ρ, I, q⟩ => q σ H fp I
def sCt : S := fun ρ => .ct ρ
theorem px_ct {pos : Pos} : PS X (.Continue pos) (tS G W sCt) := PS.of ps_continue fun D' σ H ⟨H0, io, fp, fv, ρ, I, q⟩ => q σ H fp I
/-- an expression's end in a statement -/
def onE (r : R (D × Md)) (ρ : Rho) (k : D → Md → SO) : SO := match r with
  | .ok (d, m) => k d m
  | .ex e => .ex e ρ
  | .bad => .bad
def sAsg (i : Nat) (f : E) : S := fun ρ => onE (f ρ) ρ fun d m => match stSl i d (md d m) ρ with
  | some ρ' => .nx ρ'
  | none => .bad
theorem px_asg {i : Nat} {x : Str} {p pos : Pos} {e : Expr} {f : E} (h : PS X (.Assign [.Name x p] e pos) (tAsg (tE G W f) (gName i))) : PS X (.Assign [.Name x p] e pos) (tS G W (sAsg i f)) := by
  refine PS.of h fun D' σ H ⟨H0, io, fp, fv, ρ, I, q⟩ => ?_
  refine tE.st (y := fun r => SK G W H0 io fv D' (onE r ρ _)) I q (fun e h => h) (fun h => h) fun d m q v H1 e1 v1 => ?_
  show D'.nx (σ.set i (some v)) H1
  cases z : stSl i d (md d m) ρ with
  | none =>
    simp only [onE, z] at q
    exact q.elim
  | some ρ' =>
    simp only [onE, z] at q
    obtain ⟨fp', J⟩ := I.store e1 v1.nrm z
    exact q _ _ _ J
def sRet (f : E) : S := fun ρ => onE (f ρ) ρ fun d m => match md d m with
  | .fr => .rt d ρ
  | _ => .bad
theorem RtOk.of {H0 H H1 : Hp} {io : Addr → Prop} {fp : Nat → List Addr} {fv : Nat → Option V} {σ : L2.St} {ρ : Rho} {d : D} {v : V} (I : FSR G H0 io fp fv σ H ρ) (e : Same H H1) (h : Fresh G H H1 d v) : RtOk G H0 io fv ρ d v H1 := by
  obtain ⟨f, a, b, c⟩ := h
  refine ⟨σ, fp, f, I.same e, a, b, fun x hx => ⟨I.fresh (c x hx), fun i hi => ?_⟩⟩
  obtain ⟨o, q⟩ := I.l.al i x hi
  rw [c x hx] at q
  cases q
theorem px_ret {e : Expr} {pos : Pos} {f : E} (h : PE X e (tE G W f)) : PS X (.Return (some e) pos) (tS G W (sRet f)) := by
  refine PS.of (ps_ret h) fun D' σ H ⟨H0, io, fp, fv, ρ, I, q⟩ => ?_
  refine tE.st (y := fun r => SK G W H0 io fv D' (onE r ρ _)) I q (fun e h => h) (fun h => h) fun d m q v H1 e1 v1 => ?_
  have v2 := v1.nrm
  cases z : md d m with
  | fr =>
    simp only [onE, z] at q
    rw [z] at v2
    exact q v H1 (RtOk.of I e1 v2)
  | sh =>
    simp only [onE, z] at q
    exact q.elim
  | tr =>
    simp only [onE, z] at q
    exact q.elim
/-- return x -/
def sRetV (i : Nat) : S := fun ρ => match ρ[i]? with
  | some (.own d) => .rt d (ρ.set i .nil)
  | some (.shr d) => if d.imm then .rt d ρ else .bad
  | _ => .bad
theorem px_retV {e : Expr} {pos : Pos} {i : Nat} (h : PE X e (tVar i)) : PS X (.Return (some e) pos) (tS G W (sRetV i)) := by
  refine PS.of (ps_ret h) fun D' σ H ⟨H0, io, fp, fv, ρ, I, q⟩ => ?_
  unfold sRetV at q
  cases e : ρ[i]? with
  | none =>
    rw [e] at q
    exact q.elim
  | some s =>
    rw [e] at q
    have r := I.l.sl i s e
    have hi : i < ρ.length := (List.getElem?_eq_some_iff.mp e).1
    cases s with
    | nil => exact q.elim
    | io d => exact q.elim
    | exc _ => exact q.elim
    | shr d =>
      obtain ⟨v, e1, r⟩ := r
      by_cases im : d.imm = true
      · simp only [im, if_true] at q
        exact ⟨v, e1, q v H (RtOk.of I (Same.refl H) (Fresh.of_imm im r))⟩
      · simp only [im] at q
        exact q.elim
    | own d =>
      obtain ⟨v, e1, r⟩ := r
      refine ⟨v, e1, q v H ⟨σ, upF fp i [], fp i, I.mut hi (fun _ _ _ h => h) Tk.refl List.nodup_nil (fun _ z => by cases z) (fun _ z => by cases z) trivial, r, I.l.nd i, fun a ha => ⟨I.src i a ha, fun j hj => ?_⟩⟩⟩
      by_cases z : j = i
      · subst z
        rw [upF_same] at hj
        cases hj
      · rw [upF_ne z] at hj
        exact I.l.dj j i z a hj ha
def sRetN : S := fun ρ => .rt .non ρ
theorem px_retN {pos : Pos} : PS X (.Return none pos) (tS G W sRetN) := PS.of ps_retN fun D' σ H ⟨H0, io, fp, fv, ρ, I, q⟩ => q .non H (RtOk.of I (Same.refl H) (Fresh.of_imm (av := Nav) rfl rfl))
def sDrop (f : E) : S := fun ρ => onE (f ρ) ρ fun _ _ => .nx ρ
theorem px_drop {e : Expr} {pos : Pos} {f : E} (h : PE X e (tE G W f)) (hs : swapsWith e none pos.line X.env = pure false := by rfl) : PS X (.Expr e pos) (tS G W (sDrop f)) := by
  refine PS.of (ps_expr h hs) fun D' σ H ⟨H0, io, fp, fv, ρ, I, q⟩ => ?_
  exact tE.st (y := fun r => SK G W H0 io fv D' (onE r ρ _)) I q (fun e h => h) (fun h => h) fun d m q v H1 e1 v1 => q σ H1 fp (I.same e1)
def onT (r : R Bool) (ρ : Rho) (k : Bool → SO) : SO := match r with
  | .ok b => k b
  | .ex e => .ex e ρ
  | .bad => .bad
def sIf (t : T) (f g : S) : S := fun ρ => onT (t ρ) ρ fun b => if b = true then f ρ else g ρ
theorem px_ifs {c : Expr} {a b : List Stmt} {pos : Pos} {t : T} {f g : S} (hc : PT X c (tT G W t)) (ha : PSs X a (tS G W f)) (hb : PSs X b (tS G W g)) : PS X (.If c a b pos) (tS G W (sIf t f g)) := by
  refine PS.of (ps_if hc ha hb) fun D' σ H ⟨H0, io, fp, fv, ρ, I, q⟩ => ?_
  refine tT.st (y := fun r => SK G W H0 io fv D' (onT r ρ _)) I q (fun e h => h) (fun h => h) fun b q H1 e1 => ?_
  cases b with
  | true => exact iteT ⟨H0, io, fp, fv, ρ, I.same e1, q⟩
  | false => exact iteF ⟨H0, io, fp, fv, ρ, I.same e1, q⟩
def sRaise (e : Nat) : S := fun ρ => .ex e ρ
theorem px_raise {st : Stmt} {e : Nat} (h : PS X st (fun _ σ H => W (.ref (G.cls e)) none σ H)) : PS X st (tS G W (sRaise e)) := PS.of h fun D' σ H ⟨H0, io, fp, fv, ρ, I, q⟩ => q σ H fp I
/-- what a slot owns is let go: read only from here on -/
def gFz (i : Nat) (ρ : Rho) : Rho := match ρ[i]? with
  | some (.own d) => ρ.set i (.shr d)
  | _ => ρ
def sFz (i : Nat) (f : S) : S := fun ρ => f (gFz i ρ)
theorem FSR.fz {H0 H : Hp} {io : Addr → Prop} {fp : Nat → List Addr} {fv : Nat → Option V} {σ : L2.St} {ρ : Rho} (I : FSR G H0 io fp fv σ H ρ) (i : Nat) : ∃ fp', FSR G H0 io fp' fv σ H (gFz i ρ) := by
  unfold gFz
  cases e : ρ[i]? with
  | none => exact ⟨fp, I⟩
  | some s =>
    have r := I.l.sl i s e
    have hi : i < ρ.length := (List.getElem?_eq_some_iff.mp e).1
    cases s with
    | nil => exact ⟨fp, I⟩
    | io d => exact ⟨fp, I⟩
    | exc _ => exact ⟨fp, I⟩
    | shr d => exact ⟨fp, I⟩
    | own d =>
      obtain ⟨v, e1, r⟩ := r
      refine ⟨upF fp i [], I.mut hi (fun _ _ _ h => h) Tk.refl List.nodup_nil (fun _ z => by cases z) (fun _ z => by cases z) ⟨v, e1, OT.rep d v (fp i) (fun a ha ⟨j, hj⟩ => ?_) r⟩⟩
      by_cases z : j = i
      · subst z
        rw [upF_same] at hj
        cases hj
      · rw [upF_ne z] at hj
        exact I.l.dj j i z a hj ha
theorem px_fz {st : Stmt} {i : Nat} {f : S} (h : PS X st (tS G W f)) : PS X st (tS G W (sFz i f)) := PS.of h fun D' σ H ⟨H0, io, fp, fv, ρ, I, q⟩ =>
  let ⟨fp', J⟩ := I.fz i
  ⟨H0, io, fp', fv, _, J, q⟩
end
end Dn
set_option Elab.async false
set_option linter.all false
set_option maxRecDepth 100000
set_option maxHeartbeats 2000000
/-! Dn5: loops. -/
namespace Dn
open PySem L2

/-- an iterator that walks data, from a heap H1 on -/
def Wk (G : Cts) (av : Addr → Prop) (J : It) (H1 : Hp) (ds : List D) : Prop :=
  ∀ H, Av av H1 H → Tk G H1 H → ∀ i,
    (∀ d, ds[i]? = some d → J.go i H ∧ ∀ x H', J.yld i H x H' → Same H H' ∧ ∀ av', (∀ a, av' a → av a ∨ H1 a = none) → Rep G av' H' d x) ∧
    (ds.length = i → J.stop i H)
abbrev EI := Rho → R (List D)
def tI (G : Cts) (W : WX) (f : EI) : TI := fun σ H Q => ∃ fp fv ρ, LSR G fp fv σ H ρ ∧ match f ρ with
  | .ok ds => ∀ J H1, Same H H1 → Wk G (Own fp) J H1 ds → Q J H1
  | .ex e => ∀ H', Same H H' → W (.ref (G.cls e)) none σ H'
  | .bad => False
/-- a loop's target -/
abbrev Tg := D → Rho → Option Rho
def gS (G : Cts) (st : Tg) : TG := fun v σ H Q => ∃ H0 io fp fv ρ d, FSR G H0 io fp fv σ H ρ ∧ Rep G (Own fp) H d v ∧ ∃ ρ', st d ρ = some ρ' ∧ ∀ σ' H' fp', FSR G H0 io fp' fv σ' H' ρ' → Q σ' H'

def forL (st : Tg) (body : S) : List D → S
  | [], ρ => .nx ρ
  | d :: ds, ρ => match st d ρ with
    | none => .bad
    | some ρ1 => match body ρ1 with
      | .nx ρ2 => forL st body ds ρ2
      | .ct ρ2 => forL st body ds ρ2
      | .bk ρ2 => .nx ρ2
      | o => o
def onI (r : R (List D)) (ρ : Rho) (k : List D → SO) : SO := match r with
  | .ok ds => k ds
  | .ex e => .ex e ρ
  | .bad => .bad
def sFor (it : EI) (st : Tg) (body : S) : S := fun ρ => onI (it ρ) ρ fun ds => forL st body ds ρ
def whL (t : T) (body : S) : Nat → S
  | 0, _ => .bad
  | n + 1, ρ => onT (t ρ) ρ fun b => if b = true then (match body ρ with
      | .nx ρ2 => whL t body n ρ2
      | .ct ρ2 => whL t body n ρ2
      | .bk ρ2 => .nx ρ2
      | o => o) else .nx ρ
def fuel : Nat := 1000000
def sWh (t : T) (body : S) : S := fun ρ => whL t body fuel ρ

section
variable {X : Cx} {G : Cts} {W : WX}
/-- a walk in hand: the loop from there on -/
theorem for_wk {J : It} {H0 H H1 : Hp} {io : Addr → Prop} {fp : Nat → List Addr} {fv : Nat → Option V} {σ : L2.St} {ρ : Rho} {st : Tg} {f : S} {ds : List D} {D' : Ends} (I : FSR G H0 io fp fv σ H ρ) (e1 : Same H H1) (wk : Wk G (Own fp) J H1 ds) (q : SK G W H0 io fv D' (forL st f ds ρ)) :
    ∃ Z : Nat → Nat → L2.St → Hp → Prop, (∃ m, Z 0 m σ H1) ∧ ∀ i m σ H, Z i m σ H → (J.stop i H ∧ D'.nx σ H) ∨ (J.go i H ∧ ∃ N : L2.St → Hp → Prop, (∀ σ' H', N σ' H' → ∃ m', m' < m ∧ Z (i + 1) m' σ' H') ∧ ∀ x H', J.yld i H x H' → gS G st x σ H' fun σ2 H2 => tS G W f { D' with nx := N, ct := N, bk := D'.nx } σ2 H2) := by
  obtain ⟨out, ho⟩ : ∃ out, forL st f ds ρ = out := ⟨_, rfl⟩
  rw [ho] at q
  refine ⟨fun i m σ' H' => m = ds.length - i ∧ i ≤ ds.length ∧ ∃ fp' ρ', FSR G H1 (Own fp) fp' fv σ' H' ρ' ∧ forL st f (ds.drop i) ρ' = out, ⟨ds.length, rfl, Nat.zero_le _, fp, ρ, FSR.here (I.l.same e1), ho⟩, ?_⟩
  rintro i m σ' H' ⟨rfl, hi', fp', ρ', I', h'⟩
  obtain ⟨w1, w2⟩ := wk H' (fun a o n h => I'.keep a o n h) I'.tk i
  by_cases hlt : i < ds.length
  · have hd : ds[i]? = some ds[i] := List.getElem?_eq_getElem hlt
    obtain ⟨go, yl⟩ := w1 ds[i] hd
    rw [List.drop_eq_getElem_cons hlt] at h'
    unfold forL at h'
    refine .inr ⟨go, fun σ2 H2 => ∃ fp2 ρ2, FSR G H1 (Own fp) fp2 fv σ2 H2 ρ2 ∧ forL st f (ds.drop (i + 1)) ρ2 = out, fun σ2 H2 ⟨fp2, ρ2, I2, h2⟩ => ⟨ds.length - (i + 1), by omega, rfl, hlt, fp2, ρ2, I2, h2⟩, fun x H2 y => ?_⟩
    obtain ⟨e2, rp⟩ := yl x H2 y
    have I2 := I'.same e2
    cases z1 : st ds[i] ρ' with
    | none =>
      simp only [z1] at h'
      subst h'
      exact q.elim
    | some ρ1 =>
      simp only [z1] at h'
      refine ⟨H1, Own fp, fp', fv, ρ', ds[i], I2, rp _ fun a ⟨j, hj⟩ => I'.src j a hj, ρ1, z1, fun σ3 H3 fp3 I3 => ?_⟩
      refine ⟨H1, Own fp, fp3, fv, ρ1, I3, ?_⟩
      cases z2 : f ρ1 with
      | nx ρ2 =>
        simp only [z2] at h'
        exact fun σ4 H4 fp4 I4 => ⟨fp4, ρ2, I4, h'⟩
      | ct ρ2 =>
        simp only [z2] at h'
        exact fun σ4 H4 fp4 I4 => ⟨fp4, ρ2, I4, h'⟩
      | bk ρ2 =>
        simp only [z2] at h'
        subst h'
        exact fun σ4 H4 fp4 I4 => q σ4 H4 fp4 (I.trans e1 I4)
      | rt d ρ2 =>
        simp only [z2] at h'
        subst h'
        exact fun v H4 I4 => q v H4 (I4.trans I e1)
      | ex e ρ2 =>
        simp only [z2] at h'
        subst h'
        exact fun σ4 H4 fp4 I4 => q σ4 H4 fp4 (I.trans e1 I4)
      | bad =>
        simp only [z2] at h'
        subst h'
        exact q
  · have e : i = ds.length := by omega
    subst e
    rw [List.drop_length] at h'
    unfold forL at h'
    subst h'
    exact .inl ⟨w2 rfl, q σ' H' fp' (I.trans e1 I')⟩
theorem px_for {tg iter : Expr} {body : List Stmt} {pos : Pos} {it : EI} {st : Tg} {f : S} (hp : PassesOwn (model X.prog X.w) X.A X.env X.xe) (hc : X.calm = true) (hi : PI X tg iter (tI G W it)) (hg : PG X tg (gS G st)) (hb : PSs X body (tS G W f))
    (hs : ∀ x, foldedSetIterable iter X.env x = pure x := by intro _; rfl) : PS X (.For tg iter body [] pos) (tS G W (sFor it st f)) := by
  refine PS.of (ps_for hp hc hi hg hb hs) fun D' σ H ⟨H0, io, fp, fv, ρ, I, q⟩ => ?_
  unfold sFor at q
  refine ⟨fp, fv, ρ, I.l, ?_⟩
  cases z : it ρ with
  | bad =>
    rw [z] at q
    exact q
  | ex e =>
    rw [z] at q
    exact fun H' e' => q σ H' fp (I.same e')
  | ok ds =>
    rw [z] at q
    exact fun J H1 e1 wk => for_wk I e1 wk q
theorem px_wh {c : Expr} {body : List Stmt} {pos : Pos} {t : T} {f : S} (hp : PassesOwn (model X.prog X.w) X.A X.env X.xe) (hc : PT X c (tT G W t)) (hb : PSs X body (tS G W f)) : PS X (.While c body [] pos) (tS G W (sWh t f)) := by
  refine PS.of (ps_while hp hc hb) fun D' σ H ⟨H0, io, fp, fv, ρ, I, q⟩ => ?_
  unfold sWh at q
  obtain ⟨out, ho⟩ : ∃ out, whL t f fuel ρ = out := ⟨_, rfl⟩
  rw [ho] at q
  refine ⟨fun m σ' H' => ∃ fp' ρ', FSR G H0 io fp' fv σ' H' ρ' ∧ whL t f m ρ' = out, ⟨fuel, fp, ρ, I, ho⟩, ?_⟩
  rintro m σ' H' ⟨fp', ρ', I', h'⟩
  cases m with
  | zero =>
    unfold whL at h'
    subst h'
    exact q.elim
  | succ n =>
    unfold whL at h'
    rw [← h'] at q
    refine tT.st (y := fun r => onT r ρ' _ = out ∧ SK G W H0 io fv D' (onT r ρ' _)) I' ⟨h', q⟩ (fun e h => h.2) (fun h => h.2) fun b h H1 e1 => ?_
    obtain ⟨h', q⟩ := h
    have I1 := I'.same e1
    cases b with
    | true =>
      refine iteT ⟨fun σ2 H2 => ∃ fp2 ρ2, FSR G H0 io fp2 fv σ2 H2 ρ2 ∧ whL t f n ρ2 = out, fun σ2 H2 ⟨fp2, ρ2, I2, h2⟩ => ⟨n, Nat.lt_succ_self n, fp2, ρ2, I2, h2⟩, ?_⟩
      refine ⟨H0, io, fp', fv, ρ', I1, ?_⟩
      simp only [onT, if_true] at h' q
      cases z2 : f ρ' with
      | nx ρ2 =>
        simp only [z2] at h'
        exact fun σ4 H4 fp4 I4 => ⟨fp4, ρ2, I4, h'⟩
      | ct ρ2 =>
        simp only [z2] at h'
        exact fun σ4 H4 fp4 I4 => ⟨fp4, ρ2, I4, h'⟩
      | bk ρ2 =>
        simp only [z2] at q
        exact q
      | rt d ρ2 =>
        simp only [z2] at q
        exact q
      | ex e ρ2 =>
        simp only [z2] at q
        exact q
      | bad =>
        simp only [z2] at q
        exact q
    | false =>
      refine iteF ?_
      simp only [onT] at q
      exact q σ' H1 fp' I1

/-! ### targets -/
def tgN (i : Nat) : Tg := fun d ρ => stSl i d .sh ρ
theorem gS.name {i : Nat} {v : V} {σ : L2.St} {H : Hp} {Q : L2.St → Hp → Prop} (h : gS G (tgN i) v σ H Q) : gName i v σ H Q := by
  obtain ⟨H0, io, fp, fv, ρ, d, I, r, ρ', e, k⟩ := h
  obtain ⟨fp', J⟩ := I.store (Same.refl H) (m := .sh) r e
  exact k _ _ _ J
theorem pg_of {tg : Expr} {i : Nat} (h : PG X tg (gName i)) : PG X tg (gS G (tgN i)) := ⟨fun pins s σ H v u Q I r hw => h.run pins s σ H v u Q I r (gS.name hw)⟩
/-- several targets -/
abbrev Tgs := List D → Rho → Option Rho
def gSs (G : Cts) (st : Tgs) : TGs := fun vs σ H Q => ∃ H0 io fp fv ρ ds, FSR G H0 io fp fv σ H ρ ∧ Reps G (Own fp) H ds vs ∧ ∃ ρ', st ds ρ = some ρ' ∧ ∀ σ' H' fp', FSR G H0 io fp' fv σ' H' ρ' → Q σ' H'
def tgsNil : Tgs := fun ds ρ => match ds with
  | [] => some ρ
  | _ => none
def tgsCons (i : Nat) (t : Tgs) : Tgs := fun ds ρ => match ds with
  | d :: r => (stSl i d .sh ρ).bind (t r)
  | [] => none
theorem pgs_ofNil : PGs X [] (gSs G tgsNil) := ⟨fun pins s σ H vs us Q I r hw => pgs_nil.run pins s σ H vs us Q I r (by
  obtain ⟨H0, io, fp, fv, ρ, ds, J, rp, ρ', e, k⟩ := hw
  cases ds with
  | nil =>
    cases e
    exact ⟨rp, k _ _ _ J⟩
  | cons d r => cases e)⟩
theorem store_reps {H0 H : Hp} {io : Addr → Prop} {fp : Nat → List Addr} {fv : Nat → Option V} {σ : L2.St} {ρ ρ' : Rho} {i : Nat} {d : D} {v : V} {ds : List D} {vs : List V} (I : FSR G H0 io fp fv σ H ρ) (r : Rep G (Own fp) H d v) (rs : Reps G (Own fp) H ds vs)
    (e : stSl i d .sh ρ = some ρ') : ∃ fp', FSR G H0 io fp' fv (σ.set i (some v)) H ρ' ∧ Reps G (Own fp') H ds vs := by
  obtain ⟨fp', J, k⟩ := I.l.store (Same.refl H) (m := .sh) r e
  refine ⟨fp', ⟨J, I.keep, I.tk, fun j a ha => ?_⟩, Reps.weak (fun a ⟨o, q⟩ ⟨j, hj⟩ => ?_) ds vs rs⟩
  · rcases k j a ha with z | z
    · exact I.src j a z
    · exact I.fresh z
  · rcases k j a hj with z | z
    · exact ⟨j, z⟩
    · rw [z] at q
      cases q
theorem pgs_ofCons {e : Expr} {es : List Expr} {i : Nat} {t : Tgs} (h1 : PG X e (gName i)) (h2 : PGs X es (gSs G t)) (hs : (assignEach (e :: es) X.env).map (·.2) = assign e X.env :: (assignEach es X.env).map (·.2) := by rfl) : PGs X (e :: es) (gSs G (tgsCons i t)) :=
  ⟨fun pins s σ H vs us Q I r hw => (pgs_cons h1 h2 hs).run pins s σ H vs us Q I r (by
  obtain ⟨H0, io, fp, fv, ρ, ds, J, rp, ρ', e, k⟩ := hw
  cases ds with
  | nil => cases e
  | cons d r =>
    obtain ⟨v, vr, ev, r1, r2⟩ := rp
    cases z : stSl i d .sh ρ with
    | none =>
      simp only [tgsCons, z] at e
      cases e
    | some ρ1 =>
      simp only [tgsCons, z] at e
      obtain ⟨fp', J', r2'⟩ := store_reps J r1 r2 z
      exact ⟨v, vr, ev, H0, io, fp', fv, ρ1, r, J', r2', ρ', e, k⟩)⟩
def tgT (n : Nat) (t : Tgs) : Tg := fun d ρ => match d with
  | .tup ds => if ds.length = n then t ds ρ else none
  | _ => none
theorem pg_ofTup {es : List Expr} {k : Nat} {pos : Pos} {n : Nat} {t : Tgs} (hc : X.calm = true) (h : PGs X es (gSs G t)) (hK : X.K = G.K := by rfl) (hn : (assignEach es X.env).length = n := by rfl) (hst : (assignEach es X.env).findIdx? (·.1) = none := by rfl) :
    PG X (.Tuple es k pos) (gS G (tgT n t)) := ⟨fun pins s σ H v u Q I r hw => (pg_tup hc h hn hst).run pins s σ H v u Q I r (by
  obtain ⟨H0, io, fp, fv, ρ, d, J, rp, ρ', e, k⟩ := hw
  cases d with
  | tup ds =>
    obtain ⟨a, vs, ev, s, rs⟩ := rp
    by_cases hl : ds.length = n
    · simp only [tgT, hl, if_true] at e
      rw [hK]
      exact ⟨a, vs, ev, s, rs.length.symm.trans hl, H0, io, fp, fv, ρ, ds, J, rs, ρ', e, k⟩
    · simp only [tgT, hl, if_false] at e
      cases e
  | _ => cases e)⟩
/-- a, b = e -/
def sAsgT (st : Tg) (f : E) : S := fun ρ => onE (f ρ) ρ fun d m => match m with
  | .tr => if d.imm then (match st d ρ with | some ρ' => .nx ρ' | none => .bad) else .bad
  | _ => match st d ρ with
    | some ρ' => .nx ρ'
    | none => .bad
theorem px_asgT {tg e : Expr} {pos : Pos} {st : Tg} {f : E} (h : PS X (.Assign [tg] e pos) (tAsg (tE G W f) (gS G st))) : PS X (.Assign [tg] e pos) (tS G W (sAsgT st f)) := by
  refine PS.of h fun D' σ H ⟨H0, io, fp, fv, ρ, I, q⟩ => ?_
  refine tE.st (y := fun r => SK G W H0 io fv D' (onE r ρ _)) I q (fun e h => h) (fun h => h) fun d m q v H1 e1 v1 => ?_
  have fin : Rep G (Own fp) H1 d v → SK G W H0 io fv D' (match st d ρ with | some ρ' => .nx ρ' | none => .bad) → gS G st v σ H1 D'.nx := fun r q => by
    cases z : st d ρ with
    | none =>
      rw [z] at q
      exact q.elim
    | some ρ' =>
      rw [z] at q
      exact ⟨H0, io, fp, fv, ρ, d, I.same e1, r, ρ', z, q⟩
  cases m with
  | fr => exact fin (VOk.sh I.l (fun z => by cases z) v1) q
  | sh => exact fin (VOk.sh I.l (fun z => by cases z) v1) q
  | tr =>
    by_cases im : d.imm = true
    · simp only [onE, im, if_true] at q
      exact fin (VOk.sh (m := .fr) I.l (fun z => by cases z) (Fresh.of_imm im v1.tr)) q
    · simp only [onE, im] at q
      exact q.elim
end
end Dn
set_option Elab.async false
set_option linter.all false
set_option maxRecDepth 100000
set_option maxHeartbeats 2000000
/-! Dn6: a def's promise, calls. -/
namespace Dn
open PySem L2

/-- what a body makes of its arguments: n parameters, N names -/
def fnD (n N : Nat) (body : S) (ds : List D) : R D := if ds.length = n then (match body (ds.map Sl.shr ++ List.replicate (N - n) Sl.nil) with
  | .rt d _ => .ok d
  | .nx _ => .ok .non
  | .ex e _ => .ex e
  | _ => .bad) else .bad
/-- the promise of a def that changes none of its arguments -/
def SpF (G : Cts) (n : Nat) (F : List D → R D) : Sp := fun vs H Q E' => vs.length = n ∧ ∃ ds, Reps G Nav H ds vs ∧ match F ds with
  | .ok d => ∀ v H', Same H H' → Fresh G H H' d v → Q v H'
  | .ex e => ∀ H', Same H H' → E' (.ref (G.cls e)) none H'
  | .bad => False
section
variable {G : Cts} {H : Hp}
theorem Reps.get {av : Addr → Prop} : ∀ {ds : List D} {vs : List V} {i : Nat} {d : D}, Reps G av H ds vs → ds[i]? = some d → ∃ v, vs[i]? = some v ∧ Rep G av H d v
  | [], _, _, _, _, e => by simp at e
  | d :: ds, _, 0, d', ⟨v, r, e, h, _⟩, q => by
    simp at q
    subst q e
    exact ⟨v, rfl, h⟩
  | d :: ds, _, i + 1, d', ⟨v, r, e, _, h⟩, q => by
    subst e
    obtain ⟨v', h1, h2⟩ := Reps.get (i := i) h (by simpa using q)
    exact ⟨v', by simpa using h1, h2⟩
theorem LSR.init {ds : List D} {vs : List V} {N : List Str} {n : Nat} (h : Reps G Nav H ds vs) (hn : ds.length = n) (hN : n ≤ N.length) : LSR G (fun _ => []) (fun _ => none) (L2.start N vs) H (ds.map Sl.shr ++ List.replicate (N.length - n) Sl.nil) := by
  have hl := h.length
  refine ⟨?_, fun _ => List.nodup_nil, fun _ _ _ a (z : a ∈ []) => absurd z List.not_mem_nil, fun _ a (z : a ∈ []) => absurd z List.not_mem_nil, fun i s hs => ?_⟩
  · simp only [L2.start, List.length_append, List.length_map, List.length_replicate]
    omega
  · by_cases hi : i < ds.length
    · rw [List.getElem?_append_left (by rw [List.length_map]; exact hi), List.getElem?_map] at hs
      obtain ⟨d, hd⟩ : ∃ d, ds[i]? = some d := ⟨ds[i], List.getElem?_eq_getElem hi⟩
      rw [hd] at hs
      cases hs
      obtain ⟨v, hv, r⟩ := h.get hd
      refine ⟨v, ?_, Rep.weak (fun a _ ⟨_, z⟩ => by cases z) d v r⟩
      unfold L2.start
      rw [List.getElem?_append_left (by rw [List.length_map, ← hl]; exact hi), List.getElem?_map, hv]
      rfl
    · rw [List.getElem?_append_right (by rw [List.length_map]; omega)] at hs
      have hm : s ∈ List.replicate (N.length - n) Sl.nil := List.mem_of_getElem? hs
      rw [List.mem_replicate] at hm
      obtain ⟨_, rfl⟩ := hm
      exact trivial
end
section
variable {P : Program} {w : World} {K : PySem.W.Frag} {mg : Str → Option Value} {base : Heap} {G : Cts}
/-- a def by its body's denotation -/
theorem fn_den {x qual : Str} {st : Stmt} {f : Addr} {fd : FuncData} {N ps : List Str} {k : Nat} {body : S} (F : Fun G.K x qual st f fd) (sc : FnScope N ps (defScope st)) (hN : ps.length ≤ N.length)
    (hbody : ∀ (cdv : Value) (A : Around) (outer : List Env) (s : Shared) (H : Hp) (E' : XK), Room k (A.deeper (PyProof.Rows.envOfC qual (defScope st) s.heap.objs.size f cdv)) →
      Takes (cxOf (L2.CX P w) P w G.K mg base N qual (defScope st) f cdv A outer s H E') (fun cls d _ H => E' cls d H) →
      (let X := cxOf (L2.CX P w) P w G.K mg base N qual (defScope st) f cdv A outer s H E'; PassesOwn (model X.prog X.w) X.A X.env X.xe) →
      PSs (cxOf (L2.CX P w) P w G.K mg base N qual (defScope st) f cdv A outer s H E') (defBody st) (tS G (fun cls d _ H => E' cls d H) body)) :
    FnOk P w G.K mg base (L2.CX P w) (k + 1) f fd ps (SpF G ps.length (fnD ps.length N.length body)) := by
  refine F.okX sc (fun vs H Q E' h => h.1) fun cdv A outer s H vs Q E' hr h => ⟨_, hbody cdv A outer s H E' hr (takes_of rfl rfl rfl rfl) (passes_of rfl), ?_⟩
  obtain ⟨hl, ds, r, q⟩ := h
  have hd : ds.length = ps.length := r.length.trans hl
  refine ⟨H, fun _ => False, fun _ => [], fun _ => none, ds.map Sl.shr ++ List.replicate (N.length - ps.length) Sl.nil, ⟨LSR.init r hd hN, fun _ _ _ z => z, Tk.refl, fun _ _ z => by cases z⟩, ?_⟩
  unfold fnD at q
  rw [if_pos hd] at q
  cases z : body (ds.map Sl.shr ++ List.replicate (N.length - ps.length) Sl.nil) with
  | nx ρ =>
    rw [z] at q
    exact fun σ' H' fp' J => q .non H' (fun a o h => J.keep a o (fun z => z) h) (Fresh.of_imm (av := Nav) rfl rfl)
  | rt d ρ =>
    rw [z] at q
    rintro v H' ⟨σ', fp', f', J, o, n, s'⟩
    exact q v H' (fun a o h => J.keep a o (fun z => z) h) ⟨f', o, n, fun a ha => (s' a ha).1.elim False.elim id⟩
  | ex e ρ =>
    rw [z] at q
    exact fun σ' H' fp' J => q H' (fun a o h => J.keep a o (fun z => z) h)
  | ct ρ =>
    rw [z] at q
    exact q.elim
  | bk ρ =>
    rw [z] at q
    exact q.elim
  | bad =>
    rw [z] at q
    exact q.elim
/-- a def as its callers see it -/
structure Cal (G : Cts) (P : Program) (w : World) (mg : Str → Option Value) (base : Heap) (k : Nat) (x : Str) (ps : List Str) (F : List D → R D) : Prop where
  len : ∀ ds : List D, ds.length ≠ ps.length → F ds = .bad
  at' : ∃ f fd, FnOk P w G.K mg base (L2.CX P w) k f fd ps (SpF G ps.length F) ∧ mg x = some (.ref f) ∧ PySem.W.keepIn G.K (.ref f) = true ∧ Binds G.K fd ps [] ∧ ∃ oc od sl, G.K.lookup f = some ⟨oc, od, .func fd, sl⟩
end
section
variable {X : Cx} {G : Cts} {W : WX}
def eCall (F : List D → R D) (g : EA) : E := fun ρ => (g ρ).bind fun a => (F a.1).bind fun d => .ok (d, .fr)
theorem px_call {x : Str} {ps : List Str} {k j : Nat} {F : List D → R D} {g : EA} {p pos : Pos} {e : Expr} {es : List Expr} (c : Cal G X.prog X.w X.mg X.base k x ps F) (hr : Room j X.A) (hj : k ≤ j) (hg : Gl X x) (tk : Takes X W)
    (ha : PA X (e :: es) (tA G W g)) (hK : X.K = G.K := by rfl) (hdb : (x == ("__debug__" : Str)) = false := by decide) (he : starEach (e :: es) X.env = (false, eval e X.env) :: starEach es X.env := by rfl) (hpl : (backTo pos (starEach es X.env)).any (·.1) = false := by rfl) :
    PE X (.Call (.Name x p) (e :: es) [] pos) (tE G W (eCall F g)) := by
  obtain ⟨f, fd, ok, hm, hk, hb, _⟩ := c.at'
  refine PE.of (pe_callS (E := WE W) (by rw [hK]; exact ok) (hr.mono hj) hg hm (by rw [hK]; exact hk) (by rw [hK]; exact hb) (fun σ => passAt tk σ) ha hdb he hpl) fun σ H Q ⟨fp, fv, ρ, I, q⟩ => ?_
  refine tA.of_bind (y := yE G W fp σ H Q) I q (fun e h => h) (fun h => h) fun ds m q vs H1 e1 v1 => ?_
  have hd : ds.length = ps.length := by
    by_cases z : ds.length = ps.length
    · exact z
    · rw [c.len ds z] at q
      exact q.elim
  refine ⟨v1.length.symm.trans hd, ds, v1.tr, ?_⟩
  cases z : F ds with
  | ok d =>
    simp only [z] at q
    exact fun v H' e' f' => q v H' (e1.trans e') (f'.back e1)
  | ex e =>
    simp only [z] at q
    exact fun H' e' => q H' (e1.trans e')
  | bad =>
    simp only [z] at q
    exact q
end
end Dn
set_option Elab.async false
set_option linter.all false
set_option maxRecDepth 100000
set_option maxHeartbeats 2000000
/-! Dn7: operators on data. -/
namespace Dn
open PySem L2

section
variable {G : Cts} {H H' : Hp} {av : Addr → Prop}
theorem imms_append : ∀ xs ys : List D, D.imms (xs ++ ys) = (D.imms xs && D.imms ys)
  | [], ys => by rw [List.nil_append]; rfl
  | x :: xs, ys => by
    rw [List.cons_append]
    show (x.imm && D.imms (xs ++ ys)) = ((x.imm && D.imms xs) && D.imms ys)
    rw [imms_append xs ys, Bool.and_assoc]
theorem imms_mem {xs : List D} (h : ∀ x ∈ xs, x.imm = true) : D.imms xs = true := by
  induction xs with
  | nil => rfl
  | cons x xs ih =>
    show (x.imm && D.imms xs) = true
    rw [h x List.mem_cons_self, ih fun y hy => h y (List.mem_cons_of_mem _ hy)]
    rfl
theorem of_imms : ∀ {xs : List D}, D.imms xs = true → ∀ x ∈ xs, x.imm = true
  | [], _, _, z => by cases z
  | y :: ys, h, x, hx => by
    have h' : (y.imm && D.imms ys) = true := h
    rw [Bool.and_eq_true] at h'
    rcases List.mem_cons.mp hx with rfl | hx
    · exact h'.1
    · exact of_imms h'.2 x hx
theorem Reps.append : ∀ {xs ys : List D} {vs ws : List V}, Reps G av H xs vs → Reps G av H ys ws → Reps G av H (xs ++ ys) (vs ++ ws)
  | [], _, _, _, h, k => by
    obtain rfl : _ = [] := h
    exact k
  | x :: xs, _, _, _, ⟨v, r, e, h1, h2⟩, k => by
    subst e
    exact ⟨v, _, rfl, h1, Reps.append h2 k⟩
theorem Freshs.of_imms {ds : List D} {vs : List V} (i : D.imms ds = true) (h : Reps G av H' ds vs) : Freshs G H H' ds vs := ⟨[], Reps.own ds vs i h, List.nodup_nil, fun _ z => by cases z⟩
/-- a new list of plain things -/
theorem Fresh.lst {ds : List D} {vs : List V} {p : Addr} (i : D.imms ds = true) (h : Reps G Nav H ds vs) (hp : H p = none) : Fresh G H (upd H p (.lst vs)) (.lst ds) (.ref p) := Freshs.lst (Same.refl H) (Freshs.of_imms i h) hp
theorem Fresh.tup {ds : List D} {vs : List V} {p : Addr} (i : D.imms ds = true) (h : Reps G Nav H ds vs) (hp : H p = none) : Fresh G H (upd H p (.tup vs)) (.tup ds) (.ref p) := VsOk.tup (fp := fun _ => []) (m := .fr) (Freshs.of_imms i h) hp
theorem Fresh.int {i : Int} : Fresh G H H' (.int i) (.int i) := Fresh.of_imm (av := Nav) rfl rfl
theorem Fresh.bl {i : Bool} : Fresh G H H' (.bl i) (.bl i) := Fresh.of_imm (av := Nav) rfl rfl
theorem Fresh.str {i : Str} : Fresh G H H' (.str i) (.str i) := Fresh.of_imm (av := Nav) rfl rfl
theorem Fresh.non : Fresh G H H' .non .non := Fresh.of_imm (av := Nav) rfl rfl
end

/-- two whole numbers -/
def int2 (g : Int → Int → Option D) : D → D → Option D := fun a b => match a with
  | .int i => match b with
    | .int j => g i j
    | _ => none
  | _ => none
section
variable {G : Cts} {X : Cx}
theorem int2_some {g : Int → Int → Option D} {a b c : D} (h : int2 g a b = some c) : ∃ i j, a = .int i ∧ b = .int j ∧ g i j = some c := by
  unfold int2 at h
  cases a with
  | int i =>
    cases b with
    | int j => exact ⟨i, j, rfl, rfl, h⟩
    | _ => cases h
  | _ => cases h
theorem op2_int {C : Int → Int → Prop} {g : Int → Int → Int} {f : Int → Int → Option D} (hf : ∀ i j c, f i j = some c → C i j ∧ c = .int (g i j)) : Op2 G (rI C fun i j => .int (g i j)) (int2 f) := by
  intro x y d e H hx hy c hc Q k
  obtain ⟨i, j, rfl, rfl, h⟩ := int2_some hc
  obtain ⟨hC, rfl⟩ := hf i j c h
  obtain rfl : x = .int i := hx
  obtain rfl : y = .int j := hy
  exact ⟨i, j, rfl, rfl, hC, k _ H (Same.refl H) Fresh.int⟩
theorem op2_int0 {g : Int → Int → Int} : Op2 G (rI0 fun i j => .int (g i j)) (int2 fun i j => some (.int (g i j))) := by
  intro x y d e H hx hy c hc Q k
  obtain ⟨i, j, rfl, rfl, h⟩ := int2_some hc
  obtain rfl : x = .int i := hx
  obtain rfl : y = .int j := hy
  cases h
  exact ⟨i, j, rfl, rfl, k _ H (Same.refl H) Fresh.int⟩
theorem op2_bl0 {g : Int → Int → Bool} : Op2 G (rI0 fun i j => .bl (g i j)) (int2 fun i j => some (.bl (g i j))) := by
  intro x y d e H hx hy c hc Q k
  obtain ⟨i, j, rfl, rfl, h⟩ := int2_some hc
  obtain rfl : x = .int i := hx
  obtain rfl : y = .int j := hy
  cases h
  exact ⟨i, j, rfl, rfl, k _ H (Same.refl H) Fresh.bl⟩

/-! ### + -/
def oAdd : D → D → Option D := fun a b => match a with
  | .int i => match b with
    | .int j => some (.int (i + j))
    | _ => none
  | .str x => match b with
    | .str y => if x.length + y.length ≤ 1000000 then some (.str (x ++ y)) else none
    | _ => none
  | .lst xs => match b with
    | .lst ys => if D.imms xs = true ∧ D.imms ys = true ∧ xs.length + ys.length ≤ 1000000 then some (.lst (xs ++ ys)) else none
    | _ => none
  | .tup xs => match b with
    | .tup ys => if D.imms xs = true ∧ D.imms ys = true ∧ xs.isEmpty = false ∧ xs.length + ys.length ≤ 1000000 then some (.tup (xs ++ ys)) else none
    | _ => none
  | _ => none
def rAddS : R2 := fun x y H Q => ∃ i j, x = .str i ∧ y = .str j ∧ i.length + j.length ≤ sizeLine ∧ Q (.str (i ++ j)) H
def rAddA (K : PySem.W.Frag) : R2 := fun x y H Q => rI0 (fun i j => .int (i + j)) x y H Q ∨ (fun x y H Q => rAddS x y H Q ∨ (fun x y H Q => rCat x y H Q ∨ rCatT K x y H Q) x y H Q) x y H Q
theorem op_addA : OpR X (binaryOp .Add) (rAddA X.K) := op_add.or (OpR.or (r := rAddS) op_add_str (op_cat.or op_catT))
theorem op2_add : Op2 G (rAddA G.K) oAdd := by
  intro x y d e H hx hy c hc Q k
  unfold oAdd at hc
  cases d with
  | int i =>
    cases e with
    | int j =>
      cases hc
      obtain rfl : x = .int i := hx
      obtain rfl : y = .int j := hy
      exact .inl ⟨i, j, rfl, rfl, k _ H (Same.refl H) Fresh.int⟩
    | _ => cases hc
  | str i =>
    cases e with
    | str j =>
      obtain rfl : x = .str i := hx
      obtain rfl : y = .str j := hy
      by_cases hl : i.length + j.length ≤ 1000000
      · simp only [hl, if_true] at hc
        cases hc
        exact .inr (.inl ⟨i, j, rfl, rfl, line_big hl, k _ H (Same.refl H) Fresh.str⟩)
      · simp only [hl, if_false] at hc
        cases hc
    | _ => cases hc
  | lst xs =>
    cases e with
    | lst ys =>
      obtain ⟨a, vs, rfl, _, ha, ra⟩ := hx
      obtain ⟨b, ws, rfl, _, hb, rb⟩ := hy
      by_cases hl : D.imms xs = true ∧ D.imms ys = true ∧ xs.length + ys.length ≤ 1000000
      · simp only [hl, and_self, if_true] at hc
        cases hc
        obtain ⟨i1, i2, hl⟩ := hl
        refine .inr (.inr (.inl ⟨a, b, vs, ws, rfl, rfl, ha, hb, ?_, fun p hp => ?_⟩))
        · rw [← ra.length, ← rb.length]
          exact line_big hl
        · exact k _ _ (same_new hp) (Fresh.lst (by rw [imms_append, i1, i2]; rfl) (ra.append rb) hp)
      · simp only [hl, if_false] at hc
        cases hc
    | _ => cases hc
  | tup xs =>
    cases e with
    | tup ys =>
      obtain ⟨a, vs, rfl, ha, ra⟩ := hx
      obtain ⟨b, ws, rfl, hb, rb⟩ := hy
      by_cases hl : D.imms xs = true ∧ D.imms ys = true ∧ xs.isEmpty = false ∧ xs.length + ys.length ≤ 1000000
      · dsimp only at hc
        rw [if_pos hl] at hc
        cases hc
        obtain ⟨i1, i2, hn, hl⟩ := hl
        have im : D.imms (xs ++ ys) = true := by rw [imms_append, i1, i2]; rfl
        refine .inr (.inr (.inr ⟨a, b, vs, ws, rfl, rfl, ha, hb, fun z => ?_, ?_, fun z => ?_, fun z p hp => ?_⟩))
        · subst z
          have z2 : xs = [] := List.length_eq_zero_iff.mp ra.length
          subst z2
          cases hn
        · rw [← ra.length, ← rb.length]
          exact line_big hl
        · subst z
          have z2 : ys = [] := List.length_eq_zero_iff.mp rb.length
          subst z2
          rw [List.append_nil] at k im
          exact k _ H (Same.refl H) (Fresh.of_imm im ⟨a, vs, rfl, ha, ra⟩)
        · exact k _ _ (same_new hp) (Fresh.tup im (ra.append rb) hp)
      · dsimp only at hc
        rw [if_neg hl] at hc
        cases hc
    | _ => cases hc
  | _ => cases hc

/-! ### other operators of whole numbers -/
def oSub : D → D → Option D := int2 fun i j => some (.int (i - j))
theorem op2_sub : Op2 G (rI0 fun i j => .int (i - j)) oSub := op2_int0
def isSm (i : Int) : Prop := -(2 ^ 64) < i ∧ i < 2 ^ 64
instance : DecidablePred isSm := fun i => inferInstanceAs (Decidable (-(2 ^ 64) < i ∧ i < 2 ^ 64))
/-- two factors of together not too many bits -/
@[irreducible] def wd (i j : Int) : Bool := decide (Builtin.Int.intBits i + Builtin.Int.intBits j ≤ 10000000)
theorem wd_of {i j : Int} (h : Builtin.Int.intBits i + Builtin.Int.intBits j ≤ 10000000) : wd i j = true := by
  unfold wd
  exact decide_eq_true h
theorem wd_ok {i j : Int} (h : wd i j = true) : PySem.IntMulOk i j := by
  unfold wd at h
  have h3 := of_decide_eq_true h
  have e : bitsLine = 134217728 := by decide
  unfold PySem.IntMulOk
  intro z
  rw [Bool.and_eq_true] at z
  have z2 := z.2
  unfold Builtin.Int.intTooBig at z2
  have z3 := of_decide_eq_true z2
  rw [e] at z3
  omega
theorem op_mulX : OpR X (binaryOp .Mult) (rI (fun i j => PySem.IntMulOk i j) fun i j => .int (i * j)) := opI fun _ _ _ _ _ _ _ hc q => PyProof.Rows.mul_int q hc
def oMulI : D → D → Option D := int2 fun i j => if isSm i ∨ isSm j ∨ wd i j = true then some (.int (i * j)) else none
theorem op2_mulI : Op2 G (rI (fun i j => PySem.IntMulOk i j) fun i j => .int (i * j)) oMulI := op2_int fun i j c h => by
  split at h
  · rename_i q
    refine ⟨?_, (Option.some.inj h).symm⟩
    rcases q with q | q | q
    · exact CMul.ok (.inl q)
    · exact CMul.ok (.inr q)
    · exact wd_ok q
  · cases h
def oDiv : D → D → Option D := int2 fun i j => if 0 < j ∧ j < 2 ^ 200 then some (.int (i / j)) else none
theorem op2_div : Op2 G (rI CDivW fun i j => .int (i / j)) oDiv := op2_int fun i j c h => by
  split at h
  · rename_i q
    exact ⟨wide_div (b := 200) q.1 (by omega) (by decide) (by decide), (Option.some.inj h).symm⟩
  · cases h
def oMod : D → D → Option D := int2 fun i j => if 0 < j then some (.int (i % j)) else none
theorem op2_mod : Op2 G (rI (fun _ j => 0 < j) fun i j => .int (i % j)) oMod := op2_int fun i j c h => by
  split at h
  · rename_i q
    exact ⟨q, (Option.some.inj h).symm⟩
  · cases h
def oPow : D → D → Option D := int2 fun i j => if 0 ≤ j ∧ j ≤ 1000 ∧ isSm i then some (.int (i ^ j.toNat)) else none
theorem pow_ok {i j : Int} (q : 0 ≤ j ∧ j ≤ 1000 ∧ isSm i) : CPow i j := by
  obtain ⟨h1, h2, h3, h4⟩ := q
  refine ⟨h1, by omega, ?_⟩
  have e : ((2 : Int) ^ 64) = 18446744073709551616 := by decide
  have e2 : (2 ^ 64 : Nat) = 18446744073709551616 := by decide
  rw [e] at h3 h4
  rw [e2]
  omega
theorem op2_pow : Op2 G (rI CPow fun i j => .int (i ^ j.toNat)) oPow := op2_int fun i j c h => by
  split at h
  · rename_i q
    exact ⟨pow_ok q, (Option.some.inj h).symm⟩
  · cases h
def oShl : D → D → Option D := int2 fun i j => if 0 ≤ j ∧ j ≤ 1000 ∧ isSm i then some (.int (i * 2 ^ j.toNat)) else none
theorem op2_shl : Op2 G (rI CPow fun i j => .int (i * 2 ^ j.toNat)) oShl := op2_int fun i j c h => by
  split at h
  · rename_i q
    exact ⟨pow_ok q, (Option.some.inj h).symm⟩
  · cases h
def oShr : D → D → Option D := int2 fun i j => if 0 ≤ j then some (.int (i / 2 ^ j.toNat)) else none
theorem op2_shr : Op2 G (rI (fun _ j => 0 ≤ j) fun i j => .int (i / 2 ^ j.toNat)) oShr := op2_int fun i j c h => by
  split at h
  · rename_i q
    exact ⟨q, (Option.some.inj h).symm⟩
  · cases h
def oAnd : D → D → Option D := int2 fun i j => some (.int (Builtin.bitAnd i j))
def oOr : D → D → Option D := int2 fun i j => some (.int (Builtin.bitOr i j))
def oXor : D → D → Option D := int2 fun i j => some (.int (Builtin.bitXor i j))
theorem op2_and : Op2 G (rI0 fun i j => .int (Builtin.bitAnd i j)) oAnd := op2_int0
theorem op2_or : Op2 G (rI0 fun i j => .int (Builtin.bitOr i j)) oOr := op2_int0
theorem op2_xor : Op2 G (rI0 fun i j => .int (Builtin.bitXor i j)) oXor := op2_int0
def oLt : D → D → Option D := int2 fun i j => some (.bl (decide (i < j)))
def oLe : D → D → Option D := int2 fun i j => some (.bl (decide (i ≤ j)))
def oGt : D → D → Option D := int2 fun i j => some (.bl (decide (j < i)))
def oGe : D → D → Option D := int2 fun i j => some (.bl (decide (j ≤ i)))
theorem op2_lt : Op2 G (rI0 fun i j => .bl (decide (i < j))) oLt := op2_bl0
theorem op2_le : Op2 G (rI0 fun i j => .bl (decide (i ≤ j))) oLe := op2_bl0
theorem op2_gt : Op2 G (rI0 fun i j => .bl (decide (j < i))) oGt := op2_bl0
theorem op2_ge : Op2 G (rI0 fun i j => .bl (decide (j ≤ i))) oGe := op2_bl0
/-- is None -/
def D.isN : D → Bool
  | .non => true
  | _ => false
theorem isN_of {d : D} {v : V} {av : Addr → Prop} {H : Hp} (h : Rep G av H d v) : decide (v = .non) = d.isN := by
  cases d with
  | non =>
    obtain rfl : v = .non := h
    rfl
  | bl b =>
    obtain rfl : v = .bl b := h
    rfl
  | int b =>
    obtain rfl : v = .int b := h
    rfl
  | str b =>
    obtain rfl : v = .str b := h
    rfl
  | tup ds =>
    obtain ⟨a, vs, rfl, _⟩ := h
    rfl
  | lst ds =>
    obtain ⟨a, vs, rfl, _⟩ := h
    rfl
  | dct ks ds =>
    obtain ⟨a, vs, rfl, _⟩ := h
    rfl
  | obj c ks ds =>
    obtain ⟨a, vs, fs, rfl, _⟩ := h
    rfl
  | scr ns =>
    obtain ⟨a, rfl, _⟩ := h
    rfl
  | ty n =>
    obtain rfl : v = .ty n := h
    rfl
  | cls n =>
    obtain rfl : v = .ref (G.cls n) := h
    rfl
def rIs : R2 := fun x y H Q => y = .non ∧ Q (.bl (decide (x = .non))) H
def rIsn : R2 := fun x y H Q => y = .non ∧ Q (.bl (!decide (x = .non))) H
def oIs : D → D → Option D := fun a b => if b.isN then some (.bl a.isN) else none
def oIsn : D → D → Option D := fun a b => if b.isN then some (.bl (!a.isN)) else none
theorem isN_non {d : D} (h : d.isN = true) : d = .non := by cases d <;> first | rfl | cases h
theorem op2_is : Op2 G rIs oIs := by
  intro x y d e H hx hy c hc Q k
  unfold oIs at hc
  by_cases z : e.isN = true
  · rw [if_pos z] at hc
    cases hc
    have z' := isN_non z
    subst z'
    refine ⟨hy, ?_⟩
    rw [isN_of hx]
    exact k _ H (Same.refl H) Fresh.bl
  · rw [if_neg z] at hc
    cases hc
theorem op2_isn : Op2 G rIsn oIsn := by
  intro x y d e H hx hy c hc Q k
  unfold oIsn at hc
  by_cases z : e.isN = true
  · rw [if_pos z] at hc
    cases hc
    have z' := isN_non z
    subst z'
    refine ⟨hy, ?_⟩
    rw [isN_of hx]
    exact k _ H (Same.refl H) Fresh.bl
  · rw [if_neg z] at hc
    cases hc
theorem op_is' : OpR X (compareOp .Is) rIs := op_isN
theorem op_isn' : OpR X (compareOp .IsNot) rIsn := op_notN
end

/-! ### == -/
mutual
/-- as Python's ==; nothing of dicts and instances -/
def D.eqv : D → D → Bool
  | .non, .non => true
  | .bl a, .bl b => a == b
  | .bl a, .int j => (if a then 1 else 0) == j
  | .int i, .bl b => i == (if b then 1 else 0)
  | .int i, .int j => i == j
  | .str x, .str y => x == y
  | .lst xs, .lst ys => D.eqvs xs ys
  | .tup xs, .tup ys => D.eqvs xs ys
  | _, _ => false
def D.eqvs : List D → List D → Bool
  | [], [] => true
  | x :: xs, y :: ys => D.eqv x y && D.eqvs xs ys
  | _, _ => false
end
mutual
/-- numbers, texts, truths, None, lists and tuples of such; not too deep -/
def D.pl : Nat → D → Bool
  | _, .non => true
  | _, .bl _ => true
  | _, .int _ => true
  | _, .str _ => true
  | n, .lst xs => match n with
    | 0 => false
    | n + 1 => D.pls n xs
  | n, .tup xs => match n with
    | 0 => false
    | n + 1 => D.pls n xs
  | _, _ => false
def D.pls : Nat → List D → Bool
  | _, [] => true
  | n, x :: xs => D.pl n x && D.pls n xs
end
mutual
def D.py : D → PyData
  | .bl b => .bool b
  | .int i => .int i
  | .str s => .str s
  | .lst xs => .list (D.pys xs)
  | .tup xs => .tuple (D.pys xs)
  | _ => .none
def D.pys : List D → List PyData
  | [] => []
  | x :: xs => D.py x :: D.pys xs
end
mutual
theorem D.pl_plain : ∀ (n : Nat) (d : D), d.pl n = true → d.py.plain = true ∧ d.py.depth ≤ n
  | _, .non, _ => ⟨rfl, Nat.zero_le _⟩
  | _, .bl _, _ => ⟨rfl, Nat.zero_le _⟩
  | _, .int _, _ => ⟨rfl, Nat.zero_le _⟩
  | _, .str _, _ => ⟨rfl, Nat.zero_le _⟩
  | 0, .lst xs, h => by cases h
  | n + 1, .lst xs, h => by
    obtain ⟨a, b⟩ := D.pls_plain n xs h
    exact ⟨a, Nat.succ_le_succ b⟩
  | 0, .tup xs, h => by cases h
  | n + 1, .tup xs, h => by
    obtain ⟨a, b⟩ := D.pls_plain n xs h
    exact ⟨a, Nat.succ_le_succ b⟩
  | _, .dct _ _, h => by cases h
  | _, .obj _ _ _, h => by cases h
  | _, .scr _, h => by cases h
  | _, .ty _, h => by cases h
  | _, .cls _, h => by cases h
theorem D.pls_plain : ∀ (n : Nat) (ds : List D), D.pls n ds = true → PyData.plainAll (D.pys ds) = true ∧ PyData.depthAll (D.pys ds) ≤ n
  | _, [], _ => ⟨rfl, Nat.zero_le _⟩
  | n, d :: ds, h => by
    have h' : (d.pl n && D.pls n ds) = true := h
    rw [Bool.and_eq_true] at h'
    obtain ⟨a, b⟩ := D.pl_plain n d h'.1
    obtain ⟨a', b'⟩ := D.pls_plain n ds h'.2
    refine ⟨?_, Nat.max_le.mpr ⟨b, b'⟩⟩
    show (d.py.plain && PyData.plainAll (D.pys ds)) = true
    rw [a, a']
    rfl
end
mutual
theorem D.eqv_py : ∀ (n m : Nat) (d e : D), d.pl n = true → e.pl m = true → PyData.eqv d.py e.py = d.eqv e
  | _, _, .non, e, _, h => by cases e <;> first | rfl | cases h
  | _, _, .bl _, e, _, h => by cases e <;> first | rfl | cases h
  | _, _, .int _, e, _, h => by cases e <;> first | rfl | cases h
  | _, _, .str _, e, _, h => by cases e <;> first | rfl | cases h
  | 0, _, .lst _, _, h, _ => by cases h
  | 0, _, .tup _, _, h, _ => by cases h
  | n + 1, m, .lst xs, e, h, k => by
    cases e with
    | lst ys =>
      cases m with
      | zero => cases k
      | succ m => exact D.eqvs_py n m xs ys h k
    | _ => first | rfl | cases k
  | n + 1, m, .tup xs, e, h, k => by
    cases e with
    | tup ys =>
      cases m with
      | zero => cases k
      | succ m => exact D.eqvs_py n m xs ys h k
    | _ => first | rfl | cases k
  | _, _, .dct _ _, _, h, _ => by cases h
  | _, _, .obj _ _ _, _, h, _ => by cases h
  | _, _, .scr _, _, h, _ => by cases h
  | _, _, .ty _, _, h, _ => by cases h
  | _, _, .cls _, _, h, _ => by cases h
theorem D.eqvs_py : ∀ (n m : Nat) (d e : List D), D.pls n d = true → D.pls m e = true → PyData.eqvAll (D.pys d) (D.pys e) = D.eqvs d e
  | _, _, [], [], _, _ => rfl
  | _, _, [], _ :: _, _, _ => rfl
  | _, _, _ :: _, [], _, _ => rfl
  | n, m, x :: xs, y :: ys, h, k => by
    have h' : (x.pl n && D.pls n xs) = true := h
    have k' : (y.pl m && D.pls m ys) = true := k
    rw [Bool.and_eq_true] at h' k'
    show (PyData.eqv x.py y.py && PyData.eqvAll (D.pys xs) (D.pys ys)) = (D.eqv x y && D.eqvs xs ys)
    rw [D.eqv_py n m x y h'.1 k'.1, D.eqvs_py n m xs ys h'.2 k'.2]
end
section
variable {G : Cts} {X : Cx} {H : Hp}
mutual
theorem D.dp : ∀ (n : Nat) (d : D) (v : V), d.pl n = true → Rep G Nav H d v → Dp G.K H v d.py
  | _, .non, v, _, h => by
    obtain rfl : v = .non := h
    exact .non
  | _, .bl b, v, _, h => by
    obtain rfl : v = .bl b := h
    exact .bl b
  | _, .int b, v, _, h => by
    obtain rfl : v = .int b := h
    exact .int b
  | _, .str b, v, _, h => by
    obtain rfl : v = .str b := h
    exact .str b
  | 0, .lst xs, _, h, _ => by cases h
  | 0, .tup xs, _, h, _ => by cases h
  | n + 1, .lst xs, v, h, r => by
    obtain ⟨a, vs, rfl, _, s, r⟩ := r
    exact .lst (SqL.of s) (D.dps n xs vs h r)
  | n + 1, .tup xs, v, h, r => by
    obtain ⟨a, vs, rfl, s, r⟩ := r
    exact .tup s (D.dps n xs vs h r)
  | _, .dct _ _, _, h, _ => by cases h
  | _, .obj _ _ _, _, h, _ => by cases h
  | _, .scr _, _, h, _ => by cases h
  | _, .ty _, _, h, _ => by cases h
  | _, .cls _, _, h, _ => by cases h
theorem D.dps : ∀ (n : Nat) (ds : List D) (vs : List V), D.pls n ds = true → Reps G Nav H ds vs → DpAll G.K H vs (D.pys ds)
  | _, [], vs, _, h => by
    obtain rfl : vs = [] := h
    exact .nil
  | n, d :: ds, vs, h, r => by
    have h' : (d.pl n && D.pls n ds) = true := h
    rw [Bool.and_eq_true] at h'
    obtain ⟨v, w, rfl, r1, r2⟩ := r
    exact .cons (D.dp n d v h'.1 r1) (D.dps n ds w h'.2 r2)
end
def rEqP (K : PySem.W.Frag) : R2 := fun x y H Q => ∃ d e, Dp K H x d ∧ Dp K H y e ∧ d.plain = true ∧ e.plain = true ∧ d.depth ≤ 60 ∧ Q (.bl (PyData.eqv d e)) H
def rNeP (K : PySem.W.Frag) : R2 := fun x y H Q => ∃ d e, Dp K H x d ∧ Dp K H y e ∧ d.plain = true ∧ e.plain = true ∧ d.depth ≤ 60 ∧ Q (.bl (!PyData.eqv d e)) H
theorem op_eqP (hu : X.A.units + 64 < cLine) : OpR X (compareOp .Eq) (rEqP X.K) := by
  intro pins s σ H x y v u Q I rx ry h
  obtain ⟨d, e, hd, he, p1, p2, hn, q⟩ := h
  obtain ⟨as, r1⟩ := Dp.reads I d x v hd rx
  obtain ⟨bs, r2⟩ := Dp.reads I e y u he ry
  refine SeqAt.eq_plain r1 r2 p1 p2 ?_ ⟨.bl _, H, I, rfl, q⟩
  have := Nat.min_le_left d.depth e.depth
  omega
theorem op_neP (hu : X.A.units + 64 < cLine) : OpR X (compareOp .NotEq) (rNeP X.K) := by
  intro pins s σ H x y v u Q I rx ry h
  obtain ⟨d, e, hd, he, p1, p2, hn, q⟩ := h
  obtain ⟨as, r1⟩ := Dp.reads I d x v hd rx
  obtain ⟨bs, r2⟩ := Dp.reads I e y u he ry
  refine SeqAt.ne_plain r1 r2 p1 p2 ?_ ⟨.bl _, H, I, rfl, q⟩
  have := Nat.min_le_left d.depth e.depth
  omega
def oEq : D → D → Option D := fun a b => if a.pl 9 = true ∧ b.pl 9 = true then some (.bl (a.eqv b)) else none
def oNe : D → D → Option D := fun a b => if a.pl 9 = true ∧ b.pl 9 = true then some (.bl (!a.eqv b)) else none
theorem op2_eq : Op2 G (rEqP G.K) oEq := by
  intro x y d e H hx hy c hc Q k
  unfold oEq at hc
  by_cases z : d.pl 9 = true ∧ e.pl 9 = true
  · rw [if_pos z] at hc
    cases hc
    obtain ⟨p1, n1⟩ := D.pl_plain 9 d z.1
    obtain ⟨p2, n2⟩ := D.pl_plain 9 e z.2
    refine ⟨d.py, e.py, D.dp 9 d x z.1 hx, D.dp 9 e y z.2 hy, p1, p2, by omega, ?_⟩
    rw [D.eqv_py 9 9 d e z.1 z.2]
    exact k _ H (Same.refl H) Fresh.bl
  · rw [if_neg z] at hc
    cases hc
theorem op2_ne : Op2 G (rNeP G.K) oNe := by
  intro x y d e H hx hy c hc Q k
  unfold oNe at hc
  by_cases z : d.pl 9 = true ∧ e.pl 9 = true
  · rw [if_pos z] at hc
    cases hc
    obtain ⟨p1, n1⟩ := D.pl_plain 9 d z.1
    obtain ⟨p2, n2⟩ := D.pl_plain 9 e z.2
    refine ⟨d.py, e.py, D.dp 9 d x z.1 hx, D.dp 9 e y z.2 hy, p1, p2, by omega, ?_⟩
    rw [D.eqv_py 9 9 d e z.1 z.2]
    exact k _ H (Same.refl H) Fresh.bl
  · rw [if_neg z] at hc
    cases hc
end
end Dn
set_option Elab.async false
set_option linter.all false
set_option maxRecDepth 100000
set_option maxHeartbeats 2000000
/-! Dn8: calls of built-ins, subscripts, membership, what is walked. -/
namespace Dn
open PySem L2

def OpN (G : Cts) (r : List V → Hp → VK → Prop) (f : List D → Option D) : Prop :=
  ∀ vs ds H, Reps G Nav H ds vs → ∀ c, f ds = some c → ∀ Q : VK, (∀ v H', Same H H' → Fresh G H H' c v → Q v H') → r vs H Q
def eFn (f : List D → Option D) (g : EA) : E := fun ρ => (g ρ).bind fun a => (R.opt (f a.1)).bind fun c => .ok (c, .fr)
def Md.lo : Md → Md
  | .fr => .sh
  | m => m
section
variable {X : Cx} {G : Cts} {W : WX}
theorem PE.or {e : Expr} {t u : TE} (h : PE X e t) (k : PE X e u) : PE X e (fun σ H Q => t σ H Q ∨ u σ H Q) := ⟨fun pins s σ H Q I hw => hw.elim (h.run pins s σ H Q I) (k.run pins s σ H Q I)⟩
theorem px_fn {e : Expr} {r : List V → Hp → VK → Prop} {f : List D → Option D} {g : EA} (h : PE X e (tCB r (tA G W g))) (ho : OpN G r f) : PE X e (tE G W (eFn f g)) := by
  refine PE.of h fun σ H Q ⟨fp, fv, ρ, I, q⟩ => ?_
  refine tA.of_bind (y := yE G W fp σ H Q) I q (fun e h => h) (fun h => h) fun ds m q vs H1 e1 v1 => ?_
  cases z : f ds with
  | none =>
    simp only [z, R.opt, R.bind] at q
    exact q.elim
  | some c =>
    simp only [z, R.opt, R.bind] at q
    exact ho vs ds H1 v1.tr c z Q fun v H' e' f' => q v H' (e1.trans e') (f'.back e1)
theorem VOk.lo {fp : Nat → List Addr} {fv : Nat → Option V} {σ : L2.St} {ρ : Rho} {H H' : Hp} {m : Md} {d : D} {v : V} (I : LSR G fp fv σ H ρ) (h : VOk G fp H H' m d v) : VOk G fp H H' m.lo d v := by
  cases m with
  | fr => exact VOk.sh I (fun z => by cases z) h
  | sh => exact h
  | tr => exact h
/-- what is read only, or for now, is so in its parts -/
def avM (fp : Nat → List Addr) : Md → Addr → Prop
  | .tr => Nav
  | _ => Own fp
theorem VOk.av {fp : Nat → List Addr} {H H' : Hp} {m : Md} {d : D} {v : V} (h : VOk G fp H H' m.lo d v) : Rep G (avM fp m) H' d v := by
  cases m <;> exact h
theorem VOk.of_av {fp : Nat → List Addr} {H H' : Hp} {m : Md} {d : D} {v : V} (h : Rep G (avM fp m) H' d v) : VOk G fp H H' m.lo d v := by
  cases m <;> exact h
end

/-! ### len, int, isinstance -/
def oLen : List D → Option D := fun ds => match ds with
  | [.lst xs] => some (.int xs.length)
  | [.tup xs] => some (.int xs.length)
  | [.scr xs] => some (.int xs.length)
  | [.str x] => if x.length ≤ 1000000 then some (.int x.length) else none
  | [.dct ks _] => some (.int ks.length)
  | _ => none
def rLenA (K : PySem.W.Frag) : List V → Hp → VK → Prop := fun xs H Q => (∃ x n, xs = [x] ∧ LenV K x H n ∧ Q (.int n) H) ∨ (∃ a kvs, xs = [V.ref a] ∧ Rd H a (.dK kvs) ∧ Q (.int kvs.length) H)
section
variable {X : Cx} {G : Cts} {W : WX} {H : Hp} {av : Addr → Prop}
theorem call_lenR : CallR X (.builtin "len") (fun xs H Q => ∃ a kvs, xs = [V.ref a] ∧ Rd H a (.dK kvs) ∧ Q (.int kvs.length) H) := by
  intro pins s σ H xs us Q I r ⟨a, kvs, e, ha, q⟩
  subst e
  obtain ⟨u, rfl, ru⟩ := vals1 r
  cases ru
  exact d_len I ha fun t s' I' => ⟨.int kvs.length, H, I', ⟨t, rfl⟩, q⟩
theorem call_lenA : CallR X (.builtin "len") (rLenA X.K) := CallR.or call_len call_lenR
theorem one_of {d : D} {vs : List V} (h : Reps G av H [d] vs) : ∃ v, vs = [v] ∧ Rep G av H d v := by
  obtain ⟨v, r, rfl, h1, h2⟩ := h
  obtain rfl : r = [] := h2
  exact ⟨v, rfl, h1⟩
theorem two_of {d e : D} {vs : List V} (h : Reps G av H [d, e] vs) : ∃ v u, vs = [v, u] ∧ Rep G av H d v ∧ Rep G av H e u := by
  obtain ⟨v, r, rfl, h1, h2⟩ := h
  obtain ⟨u, rfl, h3⟩ := one_of h2
  exact ⟨v, u, rfl, h1, h3⟩
theorem opn_len : OpN G (rLenA G.K) oLen := by
  intro vs ds H hr c hc Q k
  unfold oLen at hc
  split at hc
  · cases hc
    obtain ⟨v, rfl, a, ws, rfl, _, s, r⟩ := one_of hr
    rw [r.length] at k
    exact .inl ⟨_, _, rfl, .inl ⟨ws, SqL.of s, rfl⟩, k _ H (Same.refl H) Fresh.int⟩
  · cases hc
    obtain ⟨v, rfl, a, ws, rfl, s, r⟩ := one_of hr
    rw [r.length] at k
    exact .inl ⟨_, _, rfl, .inr ⟨ws, s, rfl⟩, k _ H (Same.refl H) Fresh.int⟩
  · cases hc
    obtain ⟨v, rfl, a, rfl, s⟩ := one_of hr
    exact .inl ⟨_, _, rfl, .inl ⟨_, s.seq, (List.length_map ..).symm⟩, k _ H (Same.refl H) Fresh.int⟩
  · rename_i x
    obtain ⟨v, rfl, h⟩ := one_of hr
    obtain rfl : v = .str x := h
    split at hc
    · rename_i hl
      cases hc
      exact .inl ⟨_, _, rfl, ⟨line_big hl, rfl⟩, k _ H (Same.refl H) Fresh.int⟩
    · cases hc
  · rename_i ks es
    obtain ⟨v, rfl, a, kvs, rfl, _, s, e, r⟩ := one_of hr
    cases hc
    refine .inr ⟨a, kvs, rfl, s, ?_⟩
    rw [← e, List.length_map] at k
    exact k _ H (Same.refl H) Fresh.int
  · cases hc
def oInt : List D → Option D := fun ds => match ds with
  | [.int i] => some (.int i)
  | [.bl b] => some (.int (if b then 1 else 0))
  | _ => none
theorem opn_int : OpN G (fun xs H Q => (∃ i, xs = [.int i] ∧ Q (.int i) H) ∨ ∃ k, xs = [.bl k] ∧ Q (.int (if k then 1 else 0)) H) oInt := by
  intro vs ds H hr c hc Q k
  unfold oInt at hc
  split at hc
  · cases hc
    obtain ⟨v, rfl, h⟩ := one_of hr
    obtain rfl : v = _ := h
    exact .inl ⟨_, rfl, k _ H (Same.refl H) Fresh.int⟩
  · cases hc
    obtain ⟨v, rfl, h⟩ := one_of hr
    obtain rfl : v = _ := h
    exact .inr ⟨_, rfl, k _ H (Same.refl H) Fresh.int⟩
  · cases hc

/-! ### isinstance -/
def D.kind : D → Option String
  | .non => some "NoneType"
  | .bl _ => some "bool"
  | .int _ => some "int"
  | .str _ => some "str"
  | .tup _ => some "tuple"
  | .lst _ => some "list"
  | .dct _ _ => some "dict"
  | .scr _ => some "list"
  | _ => none
def isiT (a b : String) : Option Bool :=
  if b = "int" ∨ b = "bool" ∨ b = "str" ∨ b = "tuple" ∨ b = "list" ∨ b = "dict" then
    if a = "NoneType" ∨ a = "bool" ∨ a = "int" ∨ a = "str" ∨ a = "tuple" ∨ a = "list" ∨ a = "dict" then some (a == b || (a == "bool" && b == "int")) else none
  else none
theorem isiT_kit {a b : String} {r : Bool} (h : isiT a b = some r) : kitB a b = some r := by
  unfold isiT at h
  split at h
  · rename_i hb
    split at h
    · rename_i ha
      rw [← h]
      rcases hb with rfl | rfl | rfl | rfl | rfl | rfl <;> rcases ha with rfl | rfl | rfl | rfl | rfl | rfl | rfl <;> decide +kernel
    · cases h
  · cases h
def oIsi : List D → Option D := fun ds => match ds with
  | [d, .ty n] => (d.kind.bind fun a => isiT a n).map .bl
  | _ => none
theorem D.tyX {d : D} {v : V} {a : String} (h : Rep G av H d v) (e : d.kind = some a) : TyX G.K H v (.type a) := by
  cases d with
  | non =>
    cases e
    obtain rfl : v = .non := h
    exact .base .non
  | bl b =>
    cases e
    obtain rfl : v = .bl b := h
    exact .base (.bl b)
  | int b =>
    cases e
    obtain rfl : v = .int b := h
    exact .base (.int b)
  | str b =>
    cases e
    obtain rfl : v = .str b := h
    exact .base (.str b)
  | tup ds =>
    cases e
    obtain ⟨a, vs, rfl, s, _⟩ := h
    rcases s with (s | ⟨o, s⟩) | ⟨o, its, n, s, c, _⟩
    · exact .base (.tup s)
    · exact .fTuple s
    · exact .kTuple s c
  | lst ds =>
    cases e
    obtain ⟨a, vs, rfl, _, s, _⟩ := h
    exact .base (.lst s)
  | dct ks ds =>
    cases e
    obtain ⟨a, vs, rfl, _, s, _⟩ := h
    rcases s with s | ⟨o, s⟩
    · exact .base (.dK s)
    · exact .fDict s
  | scr ns =>
    cases e
    obtain ⟨a, rfl, s⟩ := h
    rcases s with ⟨o, s⟩ | ⟨o, its, n, s, c, _⟩
    · exact .base (.frz s)
    · exact .kList s c
  | obj _ _ _ => cases e
  | ty _ => cases e
  | cls _ => cases e
theorem opn_isi : OpN G (rIsi G.K) oIsi := by
  intro vs ds H hr c hc Q k
  unfold oIsi at hc
  split at hc
  · rename_i d n
    obtain ⟨v, u, rfl, h1, h2⟩ := two_of hr
    obtain rfl : u = .ty n := h2
    cases z : d.kind with
    | none =>
      rw [z] at hc
      cases hc
    | some a =>
      rw [z] at hc
      cases z2 : isiT a n with
      | none =>
        simp only [Option.bind_some, z2] at hc
        cases hc
      | some b =>
        simp only [Option.bind_some, z2, Option.map_some] at hc
        cases hc
        exact ⟨v, .ty n, .type a, .type n, b, rfl, .ty n, D.tyX h1 z, kit_ty (isiT_kit z2), k _ H (Same.refl H) Fresh.bl⟩
  · cases hc
theorem px_bty {x : Str} {n : String} {pos : Pos} (hg : Gl X x) (hm : X.mg x = none) (hv : bootBuiltins x = some (.type n)) (hn : x ≠ "__name__" := by decide) (hd : (x == ("__debug__" : Str)) = false := by decide) : PE X (.Name x pos) (tE G W (eC (.ty n))) :=
  px_c (pe_bltn hg hm hv (v := .ty n) rfl hn hd) rfl fun _ => rfl

/-! ### subscripts -/
theorem atI_reps {ds : List D} {vs : List V} {i : Int} {d : D} (h : Reps G av H ds vs) (e : atI ds i = some d) : ∃ v, atI vs i = some v ∧ Rep G av H d v := by
  unfold atI at e ⊢
  rw [h.length] at e
  cases z : ixN vs.length i with
  | none =>
    rw [z] at e
    cases e
  | some j =>
    rw [z] at e
    exact h.get e
theorem atI_map {α β : Type} {f : α → β} {xs : List α} {i : Int} : atI (xs.map f) i = (atI xs i).map f := by
  unfold atI
  rw [List.length_map]
  cases ixN xs.length i with
  | none => rfl
  | some j => exact List.getElem?_map
def lkD : List Key → List D → Key → Option D
  | k :: ks, d :: ds, j => if k = j then some d else lkD ks ds j
  | _, _, _ => none
theorem lkD_reps : ∀ {kvs : List (Key × V)} {ks : List Key} {ds : List D} {j : Key}, kvs.map (·.1) = ks → Reps G av H ds (kvs.map (·.2)) →
    (∀ d, lkD ks ds j = some d → ∃ v, valV kvs j = some v ∧ Rep G av H d v) ∧ (lkD ks ds j = none → valV kvs j = none)
  | [], ks, ds, j, e, r => by
    subst e
    exact ⟨fun d (z : none = some d) => (nomatch z), fun _ => rfl⟩
  | (k, v) :: kvs, ks, ds, j, e, r => by
    subst e
    cases ds with
    | nil =>
      have z := r.length
      cases z
    | cons d ds =>
      obtain ⟨v', r', e', h1, h2⟩ := r
      cases e'
      obtain ⟨i1, i2⟩ := lkD_reps (kvs := kvs) (ds := ds) (j := j) rfl h2
      by_cases z : k = j
      · subst z
        refine ⟨fun d' q => ?_, fun q => ?_⟩
        · have q' : (if k = k then some d else lkD (kvs.map (·.1)) ds k) = some d' := q
          rw [if_pos rfl] at q'
          cases q'
          exact ⟨v, valV_pos rfl, h1⟩
        · have q' : (if k = k then some d else lkD (kvs.map (·.1)) ds k) = none := q
          rw [if_pos rfl] at q'
          cases q'
      · refine ⟨fun d' q => ?_, fun q => ?_⟩
        · have q' : (if k = j then some d else lkD (kvs.map (·.1)) ds j) = some d' := q
          rw [if_neg z] at q'
          obtain ⟨u, a, b⟩ := i1 d' q'
          exact ⟨u, by rw [valV_neg z]; exact a, b⟩
        · have q' : (if k = j then some d else lkD (kvs.map (·.1)) ds j) = none := q
          rw [if_neg z] at q'
          rw [valV_neg z]
          exact i2 q'
def D.key : D → Option Key
  | .int i => some (.inl i)
  | .str s => some (.inr s)
  | _ => none
theorem D.key_of {d : D} {v : V} {k : Key} (h : Rep G av H d v) (e : d.key = some k) : v = kV k := by
  cases d with
  | int i =>
    cases e
    exact h
  | str i =>
    cases e
    exact h
  | _ => cases e
def ixD : D → D → Option D := fun a b => match a with
  | .lst xs => match b with
    | .int i => atI xs i
    | _ => none
  | .tup xs => match b with
    | .int i => atI xs i
    | _ => none
  | .scr xs => match b with
    | .int i => (atI xs i).map .int
    | _ => none
  | .str x => match b with
    | .int i => if x.length ≤ 1000000 then (atI x.cps.toList i).map fun c => .str ⟨#[c]⟩ else none
    | _ => none
  | .dct ks ds => b.key.bind fun k => lkD ks ds k
  | _ => none
def eIx (f g : E) : E := fun ρ => (f ρ).bind fun a => (g ρ).bind fun b => (R.opt (ixD a.1 b.1)).bind fun c => .ok (c, a.2)
def D.isD : D → Bool
  | .dct _ _ => true
  | _ => false
/-- the value read, by whatever avoids -/
theorem ixD_rep {a b c : D} {x y : V} {av : Addr → Prop} (hx : Rep G av H a x) (hy : Rep G Nav H b y) (e : ixD a b = some c) : ∃ v, Rep G av H c v ∧ ∀ Q : VK, Q v H → (a.isD = false → rIx G.K x y H Q) ∧ (a.isD = true → ∃ p v, x = .ref p ∧ DGet H p y (some v) ∧ Q v H) := by
  unfold ixD at e
  cases a with
  | lst xs =>
    cases b with
    | int i =>
      obtain rfl : y = .int i := hy
      obtain ⟨p, vs, rfl, _, s, r⟩ := hx
      obtain ⟨v, h1, h2⟩ := atI_reps r e
      exact ⟨v, h2, fun Q q => ⟨fun _ => .inl ⟨p, vs, i, v, rfl, rfl, SqL.of s, h1, q⟩, fun z => by cases z⟩⟩
    | _ => cases e
  | tup xs =>
    cases b with
    | int i =>
      obtain rfl : y = .int i := hy
      obtain ⟨p, vs, rfl, s, r⟩ := hx
      obtain ⟨v, h1, h2⟩ := atI_reps r e
      exact ⟨v, h2, fun Q q => ⟨fun _ => .inr (.inl ⟨p, vs, i, v, rfl, rfl, s, h1, q⟩), fun z => by cases z⟩⟩
    | _ => cases e
  | scr xs =>
    cases b with
    | int i =>
      obtain rfl : y = .int i := hy
      obtain ⟨p, rfl, s⟩ := hx
      cases z : atI xs i with
      | none =>
        simp only [z] at e
        cases e
      | some n =>
        simp only [z, Option.map_some] at e
        cases e
        exact ⟨.int n, rfl, fun Q q => ⟨fun _ => .inl ⟨p, xs.map V.int, i, .int n, rfl, rfl, s.seq, by rw [atI_map, z]; rfl, q⟩, fun z => by cases z⟩⟩
    | _ => cases e
  | str x =>
    cases b with
    | int i =>
      obtain rfl : y = .int i := hy
      obtain rfl : _ = V.str x := hx
      by_cases hl : x.length ≤ 1000000
      · simp only [hl, if_true] at e
        cases z : atI x.cps.toList i with
        | none =>
          rw [z] at e
          cases e
        | some n =>
          rw [z] at e
          cases e
          exact ⟨.str ⟨#[n]⟩, rfl, fun Q q => ⟨fun _ => .inr (.inr ⟨x, i, n, rfl, rfl, line_big hl, z, q⟩), fun z => by cases z⟩⟩
      · simp only [hl, if_false] at e
        cases e
    | _ => cases e
  | dct ks ds =>
    obtain ⟨p, kvs, rfl, _, s, e1, r⟩ := hx
    cases z : b.key with
    | none =>
      simp only [z] at e
      cases e
    | some k =>
      simp only [z, Option.bind_some] at e
      obtain ⟨v, h1, h2⟩ := (lkD_reps (j := k) e1 r).1 c e
      exact ⟨v, h2, fun Q q => ⟨fun z => (by cases z), fun _ => ⟨p, v, rfl, .inl ⟨kvs, k, s, D.key_of hy z, h1.symm⟩, q⟩⟩⟩
  | _ => cases e
theorem OTs.at {H : Hp} : ∀ {ds : List D} {vs : List V} {f : List Addr} {i : Nat} {d : D}, OTs G H ds vs f → ds[i]? = some d → ∃ v g, vs[i]? = some v ∧ OT G H d v g ∧ g.Sublist f
  | [], _, _, _, _, _, e => by simp at e
  | d :: ds, _, _, 0, d', ⟨v, r, f, g, ev, ef, h, _⟩, q => by
    subst ev ef
    cases q
    exact ⟨v, f, rfl, h, List.sublist_append_left f g⟩
  | d :: ds, _, _, i + 1, d', ⟨v, r, f, g, ev, ef, _, h⟩, q => by
    subst ev ef
    obtain ⟨u, g', h1, h2, h3⟩ := OTs.at (i := i) h q
    exact ⟨u, g', h1, h2, h3.trans (List.sublist_append_right f g)⟩
theorem OTs.rl {H : Hp} {ds : List D} {vs : List V} {f : List Addr} (h : OTs G H ds vs f) : Reps G Nav H ds vs := OTs.rep ds vs f (fun _ _ z => z) h
theorem atI_ots {H : Hp} {ds : List D} {vs : List V} {f : List Addr} {i : Int} {d : D} (h : OTs G H ds vs f) (e : atI ds i = some d) : ∃ v g, atI vs i = some v ∧ OT G H d v g ∧ g.Sublist f := by
  unfold atI at e ⊢
  rw [← h.rl.length]
  cases z : ixN ds.length i with
  | none =>
    rw [z] at e
    cases e
  | some k =>
    rw [z] at e
    exact OTs.at h e
theorem lkD_ots {H : Hp} : ∀ {kvs : List (Key × V)} {ks : List Key} {ds : List D} {f : List Addr} {j : Key} {d : D}, kvs.map (·.1) = ks → OTs G H ds (kvs.map (·.2)) f → lkD ks ds j = some d → ∃ v g, valV kvs j = some v ∧ OT G H d v g ∧ g.Sublist f
  | [], ks, ds, f, j, d, e, r, q => by
    subst e
    cases q
  | (k, v) :: kvs, ks, ds, f, j, d, e, r, q => by
    subst e
    cases ds with
    | nil =>
      have z := r.rl.length
      cases z
    | cons d0 ds =>
      obtain ⟨v', r', f1, g1, e', ef, h1, h2⟩ := r
      cases e'
      subst ef
      by_cases z : k = j
      · subst z
        have q' : (if k = k then some d0 else lkD (kvs.map (·.1)) ds k) = some d := q
        rw [if_pos rfl] at q'
        cases q'
        exact ⟨v, f1, valV_pos rfl, h1, List.sublist_append_left f1 g1⟩
      · have q' : (if k = j then some d0 else lkD (kvs.map (·.1)) ds j) = some d := q
        rw [if_neg z] at q'
        obtain ⟨u, g2, a, b, c⟩ := lkD_ots (kvs := kvs) rfl h2 q'
        exact ⟨u, g2, by rw [valV_neg z]; exact a, b, c.trans (List.sublist_append_right f1 g1)⟩
/-- the value read out of what is owned is owned -/
theorem ixD_ot {a b c : D} {x y : V} {H : Hp} {f : List Addr} (hx : OT G H a x f) (hy : Rep G Nav H b y) (e : ixD a b = some c) : ∃ v g, OT G H c v g ∧ g.Sublist f ∧ ∀ Q : VK, Q v H → (a.isD = false → rIx G.K x y H Q) ∧ (a.isD = true → ∃ p v, x = .ref p ∧ DGet H p y (some v) ∧ Q v H) := by
  cases a with
  | lst xs =>
    cases b with
    | int i =>
      obtain rfl : y = .int i := hy
      obtain ⟨p, vs, f', rfl, rfl, s, r⟩ := hx
      obtain ⟨v, g, h1, h2, h3⟩ := atI_ots r e
      exact ⟨v, g, h2, h3.trans (List.sublist_cons_self p f'), fun Q q => ⟨fun _ => .inl ⟨p, vs, i, v, rfl, rfl, SqL.of s, h1, q⟩, fun z => by cases z⟩⟩
    | _ => cases e
  | tup xs =>
    cases b with
    | int i =>
      obtain rfl : y = .int i := hy
      obtain ⟨p, vs, rfl, s, r⟩ := hx
      obtain ⟨v, g, h1, h2, h3⟩ := atI_ots r e
      exact ⟨v, g, h2, h3, fun Q q => ⟨fun _ => .inr (.inl ⟨p, vs, i, v, rfl, rfl, s, h1, q⟩), fun z => by cases z⟩⟩
    | _ => cases e
  | scr xs =>
    obtain ⟨hx, rfl⟩ := hx
    obtain ⟨v, h1, h2⟩ := ixD_rep (av := Nav) (a := .scr xs) hx hy e
    cases b with
    | int i =>
      have im : c.imm = true := by
        have e' : (atI xs i).map D.int = some c := e
        cases z : atI xs i with
        | none =>
          rw [z] at e'
          cases e'
        | some n =>
          rw [z] at e'
          cases e'
          rfl
      exact ⟨v, [], Rep.own c v im h1, List.Sublist.slnil, h2⟩
    | _ => cases e
  | str z =>
    obtain ⟨hx, rfl⟩ := hx
    obtain ⟨v, h1, h2⟩ := ixD_rep (av := Nav) (a := .str z) hx hy e
    cases b with
    | int i =>
      have im : c.imm = true := by
        have e' : (if z.length ≤ 1000000 then (atI z.cps.toList i).map fun c => D.str ⟨#[c]⟩ else none) = some c := e
        split at e'
        · cases w : atI z.cps.toList i with
          | none =>
            rw [w] at e'
            cases e'
          | some n =>
            rw [w] at e'
            cases e'
            rfl
        · cases e'
      exact ⟨v, [], Rep.own c v im h1, List.Sublist.slnil, h2⟩
    | _ => cases e
  | dct ks ds =>
    obtain ⟨p, kvs, f', rfl, rfl, s, e1, r⟩ := hx
    have e : (b.key.bind fun k => lkD ks ds k) = some c := e
    cases z : b.key with
    | none =>
      simp only [z] at e
      cases e
    | some k =>
      simp only [z, Option.bind_some] at e
      obtain ⟨v, g, h1, h2, h3⟩ := lkD_ots (j := k) e1 r e
      exact ⟨v, g, h2, h3.trans (List.sublist_cons_self p f'), fun Q q => ⟨fun z => (by cases z), fun _ => ⟨p, v, rfl, .inl ⟨kvs, k, .inl s, D.key_of hy z, h1.symm⟩, q⟩⟩⟩
  | _ => cases e
theorem ixD_ok {a b c : D} {x y : V} {H H2 : Hp} {fp : Nat → List Addr} {m : Md} (hx : VOk G fp H H2 m a x) (hy : Rep G Nav H2 b y) (e : ixD a b = some c) : ∃ v, VOk G fp H H2 m c v ∧ ∀ Q : VK, Q v H2 → (a.isD = false → rIx G.K x y H2 Q) ∧ (a.isD = true → ∃ p v, x = .ref p ∧ DGet H2 p y (some v) ∧ Q v H2) := by
  cases m with
  | fr =>
    obtain ⟨f, h1, h2, h3⟩ := hx
    obtain ⟨v, g, a1, a2, a3⟩ := ixD_ot h1 hy e
    exact ⟨v, ⟨g, a1, a2.nodup h2, fun x hx => h3 x (a2.subset hx)⟩, a3⟩
  | sh =>
    obtain ⟨v, h1, h2⟩ := ixD_rep (av := Own fp) hx hy e
    exact ⟨v, h1, h2⟩
  | tr =>
    obtain ⟨v, h1, h2⟩ := ixD_rep (av := Nav) hx hy e
    exact ⟨v, h1, h2⟩
theorem px_ix {a b : Expr} {pos : Pos} {f g : E} (hu : X.A.units + 1 < cLine) (ha : PE X a (tE G W f)) (hb : PE X b (tE G W g)) (hK : X.K = G.K := by rfl) (hs : PlainIx b := by exact fun _ _ => rfl) (hn : NoSl b := by exact fun _ _ => rfl) : PE X (.Subscript a b pos) (tE G W (eIx f g)) := by
  refine PE.of (PE.or (pe_ix ix_seq ha hb hs) (pe_dget hu ha hb hn)) fun σ H Q ⟨fp, fv, ρ, I, q⟩ => ?_
  have two : ∀ (k : V → V → Hp → Prop), (∀ a m b m2 x y H2, f ρ = .ok (a, m) → Rep G Nav H2 a x → Rep G Nav H2 b y → ∀ c, ixD a b = some c → ∀ v, (∀ Q : VK, Q v H2 → (a.isD = false → rIx G.K x y H2 Q) ∧ (a.isD = true → ∃ p v, x = .ref p ∧ DGet H2 p y (some v) ∧ Q v H2)) → Q v H2 → k x y H2) →
      tE G W f σ H fun x H1 => tE G W g σ H1 fun y H2 => k x y H2 := fun k hk => by
    refine tE.go I (fun e h => ?_) (fun h => ?_) fun a m h x H1 e1 v1 => ?_
    · simp only [eIx, h] at q
      exact q
    · simp only [eIx, h] at q
      exact q
    · simp only [eIx, h] at q
      have q : yE G W fp σ H Q ((g ρ).bind _) := q
      refine tE.of_bind (y := yE G W fp σ H Q) (I.same e1) q (fun e h H' e' => h H' (e1.trans e')) (fun h => h) fun b m2 q y H2 e2 v2 => ?_
      cases z : ixD a b with
      | none =>
        simp only [z, R.opt, R.bind] at q
        exact q.elim
      | some c =>
        simp only [z, R.opt, R.bind] at q
        have v1' := v1.same e2
        obtain ⟨v, rv, hq⟩ := ixD_ok v1' v2.tr z
        exact hk a m b m2 x y H2 h v1'.tr v2.tr c z v hq (q v H2 (e1.trans e2) rv)
  have dec : (∃ a m, f ρ = .ok (a, m) ∧ a.isD = true) ∨ ∀ a m, f ρ = .ok (a, m) → a.isD = false := by
    cases h : f ρ with
    | ok r =>
      by_cases z : r.1.isD = true
      · exact .inl ⟨r.1, r.2, rfl, z⟩
      · exact .inr fun a m e => by
          cases e
          exact Bool.eq_false_iff.mpr z
    | ex e => exact .inr fun a m e => by cases e
    | bad => exact .inr fun a m e => by cases e
  rcases dec with ⟨a, m, h, z⟩ | dec
  · refine .inr (two _ fun a' m' b m2 x y H2 h' r1 r2 c e v hq qv => ?_)
    rw [h] at h'
    cases h'
    exact (hq Q qv).2 z
  · refine .inl (two _ fun a' m' b m2 x y H2 h' r1 r2 c e v hq qv => ?_)
    have z := (hq Q qv).1 (dec a' m' h')
    rw [hK]
    exact z
end
end Dn
set_option Elab.async false
set_option linter.all false
set_option maxRecDepth 100000
set_option maxHeartbeats 2000000
/-! Dn9: what is walked; constants of a module. -/
namespace Dn
open PySem L2
def dataL : D → Option (List D)
  | .lst xs => some xs
  | .tup xs => some xs
  | .scr ns => some (ns.map .int)
  | .str s => some (s.cps.toList.map fun c => .str ⟨#[c]⟩)
  | _ => none
def itSeq (f : E) : EI := fun ρ => (f ρ).bind fun a => match a.2 with
  | .tr => if a.1.imm then R.opt (dataL a.1) else .bad
  | _ => R.opt (dataL a.1)
def rngD (lo : Int) (n : Nat) : List D := (List.range n).map fun i => .int (lo + (i : Nat))
def rng1 : List D → Option (List D) := fun ds => match ds with
  | [.int j] => if -1000000000 ≤ j ∧ j ≤ 1000000000 then some (rngD 0 j.toNat) else none
  | _ => none
def rng2 : List D → Option (List D) := fun ds => match ds with
  | [.int i, .int j] => if -1000000000 ≤ i ∧ i ≤ 1000000000 ∧ -1000000000 ≤ j ∧ j ≤ 1000000000 then some (rngD i (j - i).toNat) else none
  | _ => none
def itBy (f : List D → Option (List D)) (g : EA) : EI := fun ρ => (g ρ).bind fun a => R.opt (f a.1)
theorem rng1_some {ds xs : List D} (h : rng1 ds = some xs) : ∃ j, ds = [.int j] ∧ -1000000000 ≤ j ∧ j ≤ 1000000000 ∧ xs = rngD 0 j.toNat := by
  unfold rng1 at h
  split at h
  · rename_i j
    split at h
    · rename_i hb
      cases h
      exact ⟨j, rfl, hb.1, hb.2, rfl⟩
    · cases h
  · cases h
theorem rng2_some {ds xs : List D} (h : rng2 ds = some xs) : ∃ i j, ds = [.int i, .int j] ∧ (-1000000000 ≤ i ∧ i ≤ 1000000000 ∧ -1000000000 ≤ j ∧ j ≤ 1000000000) ∧ xs = rngD i (j - i).toNat := by
  unfold rng2 at h
  split at h
  · rename_i i j
    split at h
    · rename_i hb
      cases h
      exact ⟨i, j, rfl, hb, rfl⟩
    · cases h
  · cases h
section
variable {X : Cx} {G : Cts} {W : WX} {tg : Expr}
theorem PI.of {e : Expr} {t t' : TI} (h : PI X tg e t) (k : ∀ σ H Q, t' σ H Q → t σ H Q) : PI X tg e t' := ⟨fun pins s σ H Q I hw => h.run pins s σ H Q I (k σ H Q hw)⟩
theorem PI.or {e : Expr} {t u : TI} (h : PI X tg e t) (k : PI X tg e u) : PI X tg e (fun σ H Q => t σ H Q ∨ u σ H Q) := ⟨fun pins s σ H Q I hw => hw.elim (h.run pins s σ H Q I) (k.run pins s σ H Q I)⟩
theorem PI.or3 {e : Expr} {t u v : TI} (h : PI X tg e t) (k : PI X tg e u) (l : PI X tg e v) : PI X tg e (fun σ H Q => t σ H Q ∨ u σ H Q ∨ v σ H Q) := ⟨fun pins s σ H Q I hw => by
  rcases hw with hw | hw | hw
  · exact h.run pins s σ H Q I hw
  · exact k.run pins s σ H Q I hw
  · exact l.run pins s σ H Q I hw⟩
theorem wk_rng {av : Addr → Prop} {H1 : Hp} {lo : Int} {n : Nat} : Wk G av (Itr lo n) H1 (rngD lo n) := by
  intro H a t i
  have hl : (rngD lo n).length = n := by unfold rngD; rw [List.length_map, List.length_range]
  refine ⟨fun d hd => ?_, fun h => ?_⟩
  · have hi : i < n := by rw [← hl]; exact (List.getElem?_eq_some_iff.mp hd).1
    unfold rngD at hd
    rw [List.getElem?_map, List.getElem?_range hi] at hd
    cases hd
    exact ⟨hi, fun x H' ⟨e1, e2⟩ => ⟨e1 ▸ Same.refl H, fun av' _ => e2⟩⟩
  · rw [hl] at h
    exact Nat.le_of_eq h
abbrev yI (G : Cts) (W : WX) (fp : Nat → List Addr) (σ : L2.St) (H : Hp) (Q : It → Hp → Prop) : R (List D) → Prop
  | .ok ds => ∀ J H1, Same H H1 → Wk G (Own fp) J H1 ds → Q J H1
  | .ex e => ∀ H', Same H H' → W (.ref (G.cls e)) none σ H'
  | .bad => False
theorem tA.it {f : List D → Option (List D)} {g : EA} {σ : L2.St} {H : Hp} {Q : List V → Hp → Prop} {Q' : It → Hp → Prop} {fp : Nat → List Addr} {fv : Nat → Option V} {ρ : Rho} (I : LSR G fp fv σ H ρ) (q : yI G W fp σ H Q' (itBy f g ρ))
    (k : ∀ ds xs, f ds = some xs → ∀ m vs H1, Same H H1 → VsOk G fp H H1 m ds vs → (∀ J, Wk G (Own fp) J H1 xs → Q' J H1) → Q vs H1) : tA G W g σ H Q := by
  refine tA.of_bind (y := yI G W fp σ H Q') I q (fun e h => h) (fun h => h) fun ds m q vs H1 e1 v1 => ?_
  dsimp only at q
  cases z : f ds with
  | none =>
    rw [z] at q
    exact q.elim
  | some xs =>
    rw [z] at q
    exact k ds xs z m vs H1 e1 v1 fun J w => q J H1 e1 w
theorem pi_ofRng1 {a : Expr} {p pos : Pos} {g : EA} (hg : Gl X "range") (hm : X.mg "range" = none) (ha : PA X [a] (tA G W g)) (hs : starEach [a] X.env = [(false, eval a X.env)] := by rfl) : PI X tg (.Call (.Name "range" p) [a] [] pos) (tI G W (itBy rng1 g)) := by
  refine PI.of (pi_range1 hg hm ha hs) fun σ H Q ⟨fp, fv, ρ, I, q⟩ => tA.it I q fun ds xs z m vs H1 e1 v1 k => ?_
  obtain ⟨j, rfl, h1, h2, rfl⟩ := rng1_some z
  obtain ⟨v, rfl, h⟩ := one_of v1.tr
  obtain rfl : v = .int j := h
  exact ⟨j, rfl, by omega, by omega, k _ wk_rng⟩
theorem pi_ofRng2 {a b : Expr} {p pos : Pos} {g : EA} (hg : Gl X "range") (hm : X.mg "range" = none) (ha : PA X [a, b] (tA G W g)) (hs : starEach [a, b] X.env = [(false, eval a X.env), (false, eval b X.env)] := by rfl) (hs2 : starEach [b] X.env = [(false, eval b X.env)] := by rfl) : PI X tg (.Call (.Name "range" p) [a, b] [] pos) (tI G W (itBy rng2 g)) := by
  refine PI.of (pi_range2 hg hm ha hs hs2) fun σ H Q ⟨fp, fv, ρ, I, q⟩ => tA.it I q fun ds xs z m vs H1 e1 v1 k => ?_
  obtain ⟨i, j, rfl, hb, rfl⟩ := rng2_some z
  obtain ⟨v, u, rfl, h, h2⟩ := two_of v1.tr
  obtain rfl : v = .int i := h
  obtain rfl : u = .int j := h2
  exact ⟨i, j, rfl, ⟨by omega, by omega, by omega, by omega⟩, k _ wk_rng⟩
theorem Tk.rdT {H1 H : Hp} (t : Tk G H1 H) {a : Addr} {xs : List V} (h : SqT G.K H1 a xs) : SqT G.K H a xs := t.1 a xs h
theorem Rep.wk {av av' : Addr → Prop} {H1 H : Hp} {d : D} {v : V} (a : Av av H1 H) (t : Tk G H1 H) (k : ∀ a, av' a → av a ∨ H1 a = none) (r : Rep G av H1 d v) : Rep G av' H d v := by
  have r1 : Rep G (fun a => av a ∨ av' a) H1 d v := Rep.weak (fun a ⟨o, q⟩ z => z.elim id fun z => by
    rcases k a z with w | w
    · exact w
    · rw [w] at q
      cases q) d v r
  have r2 : Rep G (fun a => av a ∨ av' a) H d v := Rep.ext t (fun b o n q => a b o (fun z => n (.inl z)) q) d v r1
  exact Rep.weak (fun a _ z => .inr z) d v r2
theorem its_ok {J : It} {pr : Hp → Addr → List V → Prop} {a : Addr} {vs : List V} {av : Addr → Prop} {H1 : Hp} {ds : List D} (hgo : ∀ i H x, pr H a vs → vs[i]? = some x → J.go i H) (hyl : ∀ i H x H', J.yld i H x H' → H' = H ∧ (pr H a vs → vs[i]? = some x))
    (hst : ∀ i H, pr H a vs → vs.length ≤ i → J.stop i H) (hp : ∀ H, Av av H1 H → Tk G H1 H → pr H a vs) (r : Reps G av H1 ds vs) : Wk G av J H1 ds := by
  intro H k t i
  have h := hp H k t
  refine ⟨fun d hd => ?_, fun hl => hst i H h (Nat.le_of_eq (r.length ▸ hl))⟩
  obtain ⟨v, hv, rv⟩ := r.get hd
  refine ⟨hgo i H v h hv, fun x H' y => ?_⟩
  obtain ⟨e, z⟩ := hyl i H x H' y
  subst e
  have := z h
  rw [hv] at this
  cases this
  exact ⟨Same.refl _, fun av' k' => Rep.wk k t k' rv⟩
/-- a list (or the script), a tuple, a text -/
theorem pi_ofSeq {l : Expr} {f : E} (hl : PE X l (tE G W f)) (hK : X.K = G.K := by rfl) : PI X tg l (tI G W (itSeq f)) := by
  refine PI.of (PI.or3 (pi_list hl) (pi_tup hl) (pi_str hl)) fun σ H Q ⟨fp, fv, ρ, I, q⟩ => ?_
  have y : ∀ {A B : Prop}, A → A ∨ B := fun h => .inl h
  unfold itSeq at q
  cases z : f ρ with
  | ex e =>
    rw [z] at q
    exact .inl ⟨fp, fv, ρ, I, by rw [z]; exact q⟩
  | bad =>
    rw [z] at q
    exact q.elim
  | ok r =>
    obtain ⟨d, m⟩ := r
    rw [z] at q
    -- what holds of the value
    have key : ∃ xs, dataL d = some xs ∧ (∀ J H1, Same H H1 → Wk G (Own fp) J H1 xs → Q J H1) ∧ ∀ v H1, Same H H1 → VOk G fp H H1 m d v → Rep G (Own fp) H1 d v := by
      have opt : ∀ {P : Prop}, (match (R.opt (dataL d)) with | .ok ds => ∀ J H1, Same H H1 → Wk G (Own fp) J H1 ds → Q J H1 | .ex e => ∀ H', Same H H' → W (.ref (G.cls e)) none σ H' | .bad => False) → ∃ xs, dataL d = some xs ∧ (∀ J H1, Same H H1 → Wk G (Own fp) J H1 xs → Q J H1) := fun {P} q => by
        cases w : dataL d with
        | none =>
          rw [w] at q
          exact q.elim
        | some xs =>
          rw [w] at q
          exact ⟨xs, rfl, q⟩
      cases m with
      | fr =>
        obtain ⟨xs, a, b⟩ := opt (P := True) q
        exact ⟨xs, a, b, fun v H1 e1 h => VOk.sh I (fun z => by cases z) h⟩
      | sh =>
        obtain ⟨xs, a, b⟩ := opt (P := True) q
        exact ⟨xs, a, b, fun v H1 e1 h => h⟩
      | tr =>
        by_cases im : d.imm = true
        · have q' := q
          simp only [R.bind, im, if_true] at q'
          obtain ⟨xs, a, b⟩ := opt (P := True) q'
          exact ⟨xs, a, b, fun v H1 e1 h => VOk.sh (m := .fr) I (fun z => by cases z) (Fresh.of_imm im h.tr)⟩
        · have q' := q
          simp only [R.bind, im] at q'
          exact q'.elim
    obtain ⟨xs, hx, hq, hr⟩ := key
    have run : ∀ {P : VK}, (∀ v H1, Same H H1 → Rep G (Own fp) H1 d v → P v H1) → tE G W f σ H P := fun {P} k => ⟨fp, fv, ρ, I, by
      rw [z]
      exact fun v H1 e1 h => k v H1 e1 (hr v H1 e1 h)⟩
    cases d with
    | lst ds =>
      cases hx
      refine .inl (run fun v H1 e1 r => ?_)
      obtain ⟨a, vs, rfl, n, s, rs⟩ := r
      rw [hK]
      refine ⟨a, rfl, ⟨vs, SqL.of s⟩, hq _ H1 e1 (its_ok (pr := fun H a vs => SqL G.K H a vs) (a := a) (vs := vs) (fun i H x h hx => ⟨vs, x, h, hx⟩) (fun i H x H' y => ⟨y.1, fun h => y.2 vs h⟩) (fun i H h hl => ⟨vs, h, hl⟩) (fun H k t => SqL.of (k a _ n s)) rs)⟩
    | scr ns =>
      cases hx
      refine .inl (run fun v H1 e1 r => ?_)
      obtain ⟨a, rfl, s⟩ := r
      have rs : Reps G (Own fp) H1 (ns.map D.int) (ns.map V.int) := by
        clear hr run s z hq q
        induction ns with
        | nil => exact rfl
        | cons n ns ih => exact ⟨_, _, rfl, rfl, ih⟩
      rw [hK]
      refine ⟨a, rfl, ⟨_, s.seq⟩, hq _ H1 e1 (its_ok (pr := fun H a vs => SqL G.K H a vs) (a := a) (vs := ns.map V.int) (fun i H x h hx => ⟨_, x, h, hx⟩) (fun i H x H' y => ⟨y.1, fun h => y.2 _ h⟩) (fun i H h hl => ⟨_, h, hl⟩) (fun H k t => (t.2 a _ s).seq) rs)⟩
    | tup ds =>
      cases hx
      refine .inr (.inl (run fun v H1 e1 r => ?_))
      obtain ⟨a, vs, rfl, s, rs⟩ := r
      rw [hK]
      refine ⟨a, rfl, ⟨vs, s⟩, hq _ H1 e1 (its_ok (pr := fun H a vs => SqT G.K H a vs) (a := a) (vs := vs) (fun i H x h hx => ⟨vs, x, h, hx⟩) (fun i H x H' y => ⟨y.1, fun h => y.2 vs h⟩) (fun i H h hl => ⟨vs, h, hl⟩) (fun H k t => t.1 a _ s) rs)⟩
    | str x =>
      cases hx
      refine .inr (.inr (run fun v H1 e1 r => ?_))
      obtain rfl : v = .str x := r
      refine ⟨x, rfl, hq _ H1 e1 fun H k t i => ⟨fun d hd => ?_, fun hl => ?_⟩⟩
      · rw [List.getElem?_map, Array.getElem?_toList] at hd
        cases w : x.cps[i]? with
        | none =>
          rw [w] at hd
          cases hd
        | some c =>
          rw [w] at hd
          cases hd
          refine ⟨(Array.getElem?_eq_some_iff.mp w).1, fun u H' ⟨e1, c', e2, e3⟩ => ⟨e1 ▸ Same.refl H, fun av' _ => ?_⟩⟩
          rw [w] at e2
          cases e2
          exact e3
      · rw [List.length_map, Array.length_toList] at hl
        exact Nat.le_of_eq hl
    | _ => cases hx
/-! ### what the module's names hold -/
theorem px_glob {x : Str} {d : D} {v : V} {u : Value} {pos : Pos} (hg : Gl X x) (hm : X.mg x = some u) (r : RelV v u) (im : d.imm = true) (hr : ∀ H, Rep G Nav H d v) (hd : (x == ("__debug__" : Str)) = false := by decide) : PE X (.Name x pos) (tE G W (eC d)) := px_c (pe_glob hg hm r hd) im hr
/-- a module's constant -/
structure Cst (G : Cts) (mg : Str → Option Value) (x : Str) (d : D) : Prop where
  at' : ∃ u v, mg x = some u ∧ RelV v u ∧ d.imm = true ∧ ∀ H, Rep G Nav H d v
theorem px_cst {x : Str} {d : D} {pos : Pos} (c : Cst G X.mg x d) (hg : Gl X x) (hd : (x == ("__debug__" : Str)) = false := by decide) : PE X (.Name x pos) (tE G W (eC d)) := by
  obtain ⟨u, v, h1, h2, h3, h4⟩ := c.at'
  exact px_glob hg h1 h2 h3 h4 hd
theorem Cst.int {mg : Str → Option Value} {x : Str} {i : Int} {t : Tok} (h : mg x = some (.int i t)) : Cst G mg x (.int i) := ⟨_, .int i, h, ⟨t, rfl⟩, rfl, fun _ => rfl⟩
theorem Cst.str {mg : Str → Option Value} {x : Str} {i : Str} {t : Tok} (h : mg x = some (.str i t)) : Cst G mg x (.str i) := ⟨_, .str i, h, ⟨t, rfl⟩, rfl, fun _ => rfl⟩
end
/-- a def of the text, where the module's names find it -/
structure FnAt (G : Cts) (mg : Str → Option Value) (x : Str) (st : Stmt) : Prop where
  at' : ∃ f fd, Fun G.K x x st f fd ∧ mg x = some (.ref f)
end Dn
set_option Elab.async false
set_option linter.all false
set_option maxRecDepth 100000
set_option maxHeartbeats 2000000
/-! Dn10: the end of a law. -/
namespace Dn
open PySem L2
theorem _root_.L2.Fun.lk {K : PySem.W.Frag} {x qual : Str} {st : Stmt} {f : Addr} {fd : FuncData} (F : Fun K x qual st f fd) : ∃ oc od sl, K.lookup f = some ⟨oc, od, .func fd, sl⟩ := by
  obtain ⟨oc, od, kV, doc, pm, an, cdv, ct, osl, rfl, lk, hcd⟩ := F.ex
  exact ⟨oc, od, osl, lk⟩
theorem FnAt.of {K : PySem.W.Frag} {cl : Nat → Addr} {mg : Str → Option Value} {x : Str} {st : Stmt} {f : Addr} {oc : Value} {od an : Option Addr} {osl : Array (Option Value)} {kV doc pm cdv ct : Value} (m : mg x = some (.ref f))
    (l : K.lookup f = some ⟨oc, od, .func (PySem.W.fnOf x x (defArgs st) (defBody st) (defScope st) .none kV doc pm an cdv ct), osl⟩)
    (c : PySem.W.codeIn K cdv x = true) (k : PySem.W.keepIn K (.ref f) = true) : FnAt ⟨K, cl, 0, 0⟩ mg x st := ⟨f, _, fun_mk l c k, m⟩
abbrev GK {K : PySem.W.Frag} {h : Heap} (_ : K.In h) (c : Nat → Addr) : Cts := ⟨K, c, 0, 0⟩
/-- no number of a script has too many bits -/
@[irreducible] def BitsOk (ns : List Int) : Prop := ∀ z ∈ ns, Builtin.Int.intBits z ≤ 1048576
/-- the law's own promise -/
def spLaw (K : PySem.W.Frag) : Sp := fun vs H Q _ => ∃ (a : Addr) (ns : List Int), vs = [.ref a] ∧ ScrL K H a (ns.map V.int) ∧ ns.length ≤ 63 ∧ BitsOk ns ∧ ∀ H', Q (.bl true) H'
theorem law_fd {P : Program} {w : World} {mg : Str → Option Value} {G : Cts} {st : Stmt} {x y : Str} {k : Nat} {F : List D → R D} {fa : Addr} (A : FnAt G mg y st) (hfa : mg y = some (.ref fa))
    (hb : ∀ (kV doc pm : Value) (an : Option Addr) (cdv ct : Value) (s : Shared) (v : Value), BindsTo s (PySem.W.fnOf y y (defArgs st) (defBody st) (defScope st) .none kV doc pm an cdv ct) ⟨[v], []⟩ [(x, v)])
    (math : ∀ ns : List Int, ns.length ≤ 63 → BitsOk ns → F [.scr ns] = .ok (.bl true)) (c : ∀ base : Heap, Cal G P w mg base k y [x] F) :
    ∃ fd : FuncData, (∀ (s : Shared) (v : Value), BindsTo s fd ⟨[v], []⟩ [(x, v)]) ∧ ∀ base : Heap, FnOk P w G.K mg base (L2.CX P w) k fa fd [x] (spLaw G.K) := by
  obtain ⟨f, fd, Fu, hm⟩ := A.at'
  obtain ⟨oc, od, kV, doc, pm, an, cdv, ct, osl, rfl, lk, hcd⟩ := Fu.ex
  rw [hfa] at hm
  cases hm
  refine ⟨_, hb kV doc pm an cdv ct, fun base => ?_⟩
  obtain ⟨f', fd', ok, hm', _, _, oc', od', sl', lk'⟩ := (c base).at'
  rw [hfa] at hm'
  cases hm'
  rw [lk] at lk'
  cases lk'
  refine ok.imp fun vs H Q E' ⟨a, ns, e, s, hl, hb', q⟩ => ?_
  subst e
  refine ⟨rfl, [.scr ns], ⟨_, [], rfl, ⟨a, rfl, s⟩, rfl⟩, ?_⟩
  rw [math ns hl hb']
  exact fun v H' _ fr => by
    obtain rfl : v = .bl true := fr.rep (av := Nav) fun _ z => z.elim
    exact q H'
theorem walk {l : PySem.W.OpenLaw} {k : Nat} {x : Str} {q : Program} {loose : List Str} {XP : (Str → Option Value) → Heap → Prop} {YP : World → Heap → Prop} {d : DefRec} {K : Params → PySem.W.Frag} (hn : l.most = some 63) (hdf : d.params.defaults = []) (hr : Room k callerA)
    (hY : ∀ (w : World) (h : Heap), YP w h → (K w.params).In h)
    (F : ∀ (w : World) (mg : Str → Option Value) (fa : Addr) (h : Heap), (K w.params).In h → h.Ns mainGlobals mg → mg d.name = some (.ref fa) →
      ∃ fd : FuncData, (∀ (s : Shared) (u : Value), BindsTo s fd ⟨[u], []⟩ [(x, u)]) ∧ ∀ base : Heap, FnOk l.prog w (K w.params) mg base (L2.CX l.prog w) k fa fd [x] (spLaw (K w.params))) :
    PySem.W.WalkO q loose XP YP l.row.toRowW d [] (fun f vs => PySem.call f vs) :=
  L2.walk_ofB (n := 63) (k := k) (x := x) (CX := fun w => L2.CX l.prog w) (sp := fun w => spLaw (K w.params)) hn (by decide) hdf hr hY
    (fun w mg fa h a b c => let ⟨fd, h1, h2⟩ := F w mg fa h a b c; ⟨fd, h1, fun base _ _ => h2 base⟩)
    (fun w H a ns hl hbt hO hS => ⟨a, ns, rfl, by
      rcases hS with (s | s) | s
      · rcases hO a with z | ⟨o, xs, z⟩
        · rw [s] at z
          cases z
        · rw [s] at z
          cases z
      · exact .inl s
      · exact .inr s, hl, by unfold BitsOk; exact hbt, fun _ => rfl⟩) fun w H s e s' ⟨_, _, _, _, _, _, _, _, _, _, _, _, z⟩ => z
end Dn
set_option Elab.async false
set_option linter.all false
set_option maxRecDepth 100000
set_option maxHeartbeats 2000000
/-! Dn11: how denotations are reckoned (for simp). -/
namespace Dn
open PySem L2
section
variable {α β : Type}
@[simp] theorem R.bind_ok (a : α) (f : α → R β) : (R.ok a).bind f = f a := rfl
@[simp] theorem R.bind_ex (e : Nat) (f : α → R β) : (R.ex e).bind f = .ex e := rfl
@[simp] theorem R.bind_bad (f : α → R β) : (R.bad).bind f = .bad := rfl
@[simp] theorem R.opt_some (a : α) : R.opt (some a) = .ok a := rfl
@[simp] theorem R.opt_none : R.opt (none : Option α) = .bad := rfl
@[simp] theorem R.bind_ite {c : Prop} [Decidable c] (a b : R α) (f : α → R β) : (if c then a else b).bind f = if c then a.bind f else b.bind f := by split <;> rfl
@[simp] theorem R.opt_ite {c : Prop} [Decidable c] (a b : Option α) : R.opt (if c then a else b) = if c then R.opt a else R.opt b := by split <;> rfl
end
/-- what comes behind a statement -/
def SO.go (o : SO) (g : S) : SO := match o with
  | .nx ρ => g ρ
  | o => o
@[simp] theorem SO.go_nx (ρ : Rho) (g : S) : (SO.nx ρ).go g = g ρ := rfl
@[simp] theorem SO.go_ct (ρ : Rho) (g : S) : (SO.ct ρ).go g = .ct ρ := rfl
@[simp] theorem SO.go_bk (ρ : Rho) (g : S) : (SO.bk ρ).go g = .bk ρ := rfl
@[simp] theorem SO.go_rt (d : D) (ρ : Rho) (g : S) : (SO.rt d ρ).go g = .rt d ρ := rfl
@[simp] theorem SO.go_ex (d : Nat) (ρ : Rho) (g : S) : (SO.ex d ρ).go g = .ex d ρ := rfl
@[simp] theorem SO.go_bad (g : S) : (SO.bad).go g = .bad := rfl
@[simp] theorem SO.go_ite {c : Prop} [Decidable c] (a b : SO) (g : S) : (if c then a else b).go g = if c then a.go g else b.go g := by split <;> rfl
/-- what a body leaves -/
def SO.res : SO → R D
  | .rt d _ => .ok d
  | .nx _ => .ok .non
  | .ex e _ => .ex e
  | _ => .bad
@[simp] theorem SO.res_nx (ρ : Rho) : (SO.nx ρ).res = .ok .non := rfl
@[simp] theorem SO.res_rt (d : D) (ρ : Rho) : (SO.rt d ρ).res = .ok d := rfl
@[simp] theorem SO.res_ex (d : Nat) (ρ : Rho) : (SO.ex d ρ).res = .ex d := rfl
@[simp] theorem SO.res_bad : (SO.bad).res = .bad := rfl
@[simp] theorem SO.res_ite {c : Prop} [Decidable c] (a b : SO) : (if c then a else b).res = if c then a.res else b.res := by split <;> rfl
theorem fnD_eq (n N : Nat) (body : S) (ds : List D) (h : ds.length = n) : fnD n N body ds = (body (ds.map Sl.shr ++ List.replicate (N - n) Sl.nil)).res := by
  unfold fnD
  rw [if_pos h]
  cases body (ds.map Sl.shr ++ List.replicate (N - n) Sl.nil) <;> rfl
@[simp] theorem fSeq_eq (f g : S) (ρ : Rho) : fSeq f g ρ = (f ρ).go g := by
  unfold fSeq SO.go
  cases f ρ <;> rfl
@[simp] theorem fPass_eq (ρ : Rho) : fPass ρ = .nx ρ := rfl
@[simp] theorem sCt_eq (ρ : Rho) : sCt ρ = .ct ρ := rfl
@[simp] theorem sRaise_eq (e : Nat) (ρ : Rho) : sRaise e ρ = .ex e ρ := rfl
@[simp] theorem sRetN_eq (ρ : Rho) : sRetN ρ = .rt .non ρ := rfl
@[simp] theorem onE_ok (d : D) (m : Md) (ρ : Rho) (k : D → Md → SO) : onE (.ok (d, m)) ρ k = k d m := rfl
@[simp] theorem onE_ex (e : Nat) (ρ : Rho) (k : D → Md → SO) : onE (.ex e) ρ k = .ex e ρ := rfl
@[simp] theorem onE_bad (ρ : Rho) (k : D → Md → SO) : onE .bad ρ k = .bad := rfl
@[simp] theorem onE_ite {c : Prop} [Decidable c] (a b : R (D × Md)) (ρ : Rho) (k : D → Md → SO) : onE (if c then a else b) ρ k = if c then onE a ρ k else onE b ρ k := by split <;> rfl
@[simp] theorem onT_ok (b : Bool) (ρ : Rho) (k : Bool → SO) : onT (.ok b) ρ k = k b := rfl
@[simp] theorem onT_ex (e : Nat) (ρ : Rho) (k : Bool → SO) : onT (.ex e) ρ k = .ex e ρ := rfl
@[simp] theorem onT_bad (ρ : Rho) (k : Bool → SO) : onT .bad ρ k = .bad := rfl
@[simp] theorem onT_ite {c : Prop} [Decidable c] (a b : R Bool) (ρ : Rho) (k : Bool → SO) : onT (if c then a else b) ρ k = if c then onT a ρ k else onT b ρ k := by split <;> rfl
@[simp] theorem onI_ok (b : List D) (ρ : Rho) (k : List D → SO) : onI (.ok b) ρ k = k b := rfl
@[simp] theorem onI_ex (e : Nat) (ρ : Rho) (k : List D → SO) : onI (.ex e) ρ k = .ex e ρ := rfl
@[simp] theorem onI_bad (ρ : Rho) (k : List D → SO) : onI .bad ρ k = .bad := rfl
@[simp] theorem sIf_eq (t : T) (f g : S) (ρ : Rho) : sIf t f g ρ = onT (t ρ) ρ fun b => if b = true then f ρ else g ρ := rfl
/-- a stored slot -/
def SO.st : Option Rho → SO
  | some ρ => .nx ρ
  | none => .bad
@[simp] theorem SO.st_some (ρ : Rho) : SO.st (some ρ) = .nx ρ := rfl
@[simp] theorem sAsg_eq (i : Nat) (f : E) (ρ : Rho) : sAsg i f ρ = onE (f ρ) ρ fun d m => SO.st (stSl i d (md d m) ρ) := by
  unfold sAsg
  congr 1
theorem stSl_eq (i : Nat) (d : D) (m : Md) (ρ : Rho) : stSl i d m ρ = match ρ[i]? with
  | none => none
  | some (.io _) => none
  | some _ => match m with
    | .fr => if d.imm then some (ρ.set i (.shr d)) else some (ρ.set i (.own d))
    | .sh => some (ρ.set i (.shr d))
    | .tr => none := rfl
/-- the slot i may be stored -/
def free (s : Option Sl) : Prop := match s with
  | none => False
  | some (.io _) => False
  | _ => True
@[simp] theorem free_nil : free (some .nil) := trivial
@[simp] theorem free_shr (d : D) : free (some (.shr d)) := trivial
@[simp] theorem free_own (d : D) : free (some (.own d)) := trivial
@[simp] theorem free_exc (e : Nat) : free (some (.exc e)) := trivial
theorem stSl_sh {i : Nat} {d : D} {ρ : Rho} (h : free ρ[i]?) : stSl i d .sh ρ = some (ρ.set i (.shr d)) := by
  unfold stSl
  cases e : ρ[i]? with
  | none =>
    rw [e] at h
    exact h.elim
  | some s => cases s <;> first | rfl | (rw [e] at h; exact h.elim)
theorem stSl_fr {i : Nat} {d : D} {ρ : Rho} (h : free ρ[i]?) : stSl i d .fr ρ = some (ρ.set i (if d.imm = true then .shr d else .own d)) := by
  unfold stSl
  cases e : ρ[i]? with
  | none =>
    rw [e] at h
    exact h.elim
  | some s => cases s <;> first | (rw [e] at h; exact h.elim) | (cases d.imm <;> rfl)
theorem md_imm {d : D} {m : Md} (h : d.imm = true) : md d m = .fr := if_pos h
theorem md_not {d : D} {m : Md} (h : d.imm = false) : md d m = m := by unfold md; rw [h]; rfl
@[simp] theorem md_fr (d : D) : md d .fr = .fr := by unfold md; split <;> rfl
@[simp] theorem md_non (m : Md) : md .non m = .fr := rfl
@[simp] theorem md_bl (b : Bool) (m : Md) : md (.bl b) m = .fr := rfl
@[simp] theorem md_int (b : Int) (m : Md) : md (.int b) m = .fr := rfl
@[simp] theorem md_str (b : Str) (m : Md) : md (.str b) m = .fr := rfl
@[simp] theorem md_scr (b : List Int) (m : Md) : md (.scr b) m = .fr := rfl
@[simp] theorem md_ty (b : String) (m : Md) : md (.ty b) m = .fr := rfl
@[simp] theorem md_cls (b : Nat) (m : Md) : md (.cls b) m = .fr := rfl
@[simp] theorem md_lst (b : List D) (m : Md) : md (.lst b) m = m := rfl
@[simp] theorem md_dct (k : List Key) (b : List D) (m : Md) : md (.dct k b) m = m := rfl
@[simp] theorem md_tup (b : List D) (m : Md) : md (.tup b) m = if D.imms b = true then .fr else m := rfl
@[simp] theorem imm_non : D.imm .non = true := rfl
@[simp] theorem imm_bl (b : Bool) : D.imm (.bl b) = true := rfl
@[simp] theorem imm_int (b : Int) : D.imm (.int b) = true := rfl
@[simp] theorem imm_str (b : Str) : D.imm (.str b) = true := rfl
@[simp] theorem imm_scr (b : List Int) : D.imm (.scr b) = true := rfl
@[simp] theorem imm_ty (b : String) : D.imm (.ty b) = true := rfl
@[simp] theorem imm_cls (b : Nat) : D.imm (.cls b) = true := rfl
@[simp] theorem imm_tup (b : List D) : D.imm (.tup b) = D.imms b := rfl
@[simp] theorem imm_lst (b : List D) : D.imm (.lst b) = false := rfl
@[simp] theorem imm_dct (k : List Key) (b : List D) : D.imm (.dct k b) = false := rfl
@[simp] theorem imm_obj (k : Nat) (n : List Str) (b : List D) : D.imm (.obj k n b) = false := rfl
@[simp] theorem imms_nil : D.imms [] = true := rfl
@[simp] theorem imms_cons (d : D) (ds : List D) : D.imms (d :: ds) = (d.imm && D.imms ds) := rfl
@[simp] theorem jn_fr (m : Md) : Md.jn .fr m = m := rfl
@[simp] theorem jn_sh (m : Md) : Md.jn .sh .fr = .sh := rfl
@[simp] theorem jn_sh2 (m : Md) : Md.jn .sh .sh = .sh := rfl
@[simp] theorem jn_tr (m : Md) : Md.jn .tr m = .tr := rfl
@[simp] theorem lo_fr : Md.lo .fr = .sh := rfl
@[simp] theorem lo_sh : Md.lo .sh = .sh := rfl
@[simp] theorem lo_tr : Md.lo .tr = .tr := rfl
@[simp] theorem sRet_eq (f : E) (ρ : Rho) : sRet f ρ = onE (f ρ) ρ fun d m => match md d m with
  | .fr => .rt d ρ
  | _ => .bad := rfl
@[simp] theorem sDrop_eq (f : E) (ρ : Rho) : sDrop f ρ = onE (f ρ) ρ fun _ _ => .nx ρ := rfl
@[simp] theorem sFor_eq (it : EI) (st : Tg) (f : S) (ρ : Rho) : sFor it st f ρ = onI (it ρ) ρ fun ds => forL st f ds ρ := rfl
@[simp] theorem sFz_eq (i : Nat) (f : S) (ρ : Rho) : sFz i f ρ = f (gFz i ρ) := rfl
/-- a slot read -/
def Sl.rd : Option Sl → R (D × Md)
  | some (.shr d) => .ok (d, .sh)
  | some (.own d) => .ok (d, .tr)
  | some (.io d) => .ok (d, .tr)
  | _ => .bad
@[simp] theorem Sl.rd_shr (d : D) : Sl.rd (some (.shr d)) = .ok (d, .sh) := rfl
@[simp] theorem Sl.rd_own (d : D) : Sl.rd (some (.own d)) = .ok (d, .tr) := rfl
@[simp] theorem Sl.rd_io (d : D) : Sl.rd (some (.io d)) = .ok (d, .tr) := rfl
@[simp] theorem eVar_eq (i : Nat) (ρ : Rho) : eVar i ρ = Sl.rd ρ[i]? := by
  unfold eVar Sl.rd
  rfl
def Sl.ret (i : Nat) (ρ : Rho) : Option Sl → SO
  | some (.own d) => .rt d (ρ.set i .nil)
  | some (.shr d) => if d.imm then .rt d ρ else .bad
  | _ => .bad
@[simp] theorem Sl.ret_own (i : Nat) (ρ : Rho) (d : D) : Sl.ret i ρ (some (.own d)) = .rt d (ρ.set i .nil) := rfl
@[simp] theorem Sl.ret_shr (i : Nat) (ρ : Rho) (d : D) : Sl.ret i ρ (some (.shr d)) = if d.imm then .rt d ρ else .bad := rfl
@[simp] theorem sRetV_eq (i : Nat) (ρ : Rho) : sRetV i ρ = Sl.ret i ρ ρ[i]? := rfl
@[simp] theorem eC_eq (d : D) (ρ : Rho) : eC d ρ = .ok (d, .fr) := rfl
@[simp] theorem eBin_eq (op : D → D → Option D) (f g : E) (ρ : Rho) : eBin op f g ρ = (f ρ).bind fun a => (g ρ).bind fun b => (R.opt (op a.1 b.1)).bind fun c => .ok (c, .fr) := rfl
@[simp] theorem eNil_eq (ρ : Rho) : eNil ρ = .ok ([], .fr) := rfl
@[simp] theorem eCons_eq (f : E) (g : EA) (ρ : Rho) : eCons f g ρ = (f ρ).bind fun a => (g ρ).bind fun b => .ok (a.1 :: b.1, Md.jn (md a.1 a.2) b.2) := rfl
@[simp] theorem eTup_eq (g : EA) (ρ : Rho) : eTup g ρ = (g ρ).bind fun a => if a.1.length ≤ 1000000 then .ok (.tup a.1, a.2) else .bad := rfl
@[simp] theorem eLst_eq (g : EA) (ρ : Rho) : eLst g ρ = (g ρ).bind fun a => if a.1.length ≤ 1000000 then .ok (.lst a.1, a.2) else .bad := rfl
@[simp] theorem eFn_eq (f : List D → Option D) (g : EA) (ρ : Rho) : eFn f g ρ = (g ρ).bind fun a => (R.opt (f a.1)).bind fun c => .ok (c, .fr) := rfl
@[simp] theorem eCall_eq (F : List D → R D) (g : EA) (ρ : Rho) : eCall F g ρ = (g ρ).bind fun a => (F a.1).bind fun d => .ok (d, .fr) := rfl
@[simp] theorem eIx_eq (f g : E) (ρ : Rho) : eIx f g ρ = (f ρ).bind fun a => (g ρ).bind fun b => (R.opt (ixD a.1 b.1)).bind fun c => .ok (c, a.2) := rfl
@[simp] theorem eIf_eq (t : T) (f g : E) (ρ : Rho) : eIf t f g ρ = (t ρ).bind fun b => if b = true then f ρ else g ρ := rfl
/-- the truth that data is -/
def D.tb : D → R Bool
  | .bl b => .ok b
  | _ => .bad
@[simp] theorem D.tb_bl (b : Bool) : D.tb (.bl b) = .ok b := rfl
@[simp] theorem tOf_eq (f : E) (ρ : Rho) : tOf f ρ = (f ρ).bind fun a => a.1.tb := by
  unfold tOf
  congr 1
@[simp] theorem tTru_eq (f : E) (ρ : Rho) : tTru f ρ = (f ρ).bind fun a => R.opt (truD a.1) := rfl
@[simp] theorem tAnd_eq (f g : T) (ρ : Rho) : tAnd' f g ρ = (f ρ).bind fun b => if b = true then g ρ else .ok false := rfl
@[simp] theorem tOr_eq (f g : T) (ρ : Rho) : tOr' f g ρ = (f ρ).bind fun b => if b = true then .ok true else g ρ := rfl
@[simp] theorem tNot_eq (f : T) (ρ : Rho) : tNot' f ρ = (f ρ).bind fun b => .ok (!b) := rfl
@[simp] theorem eAndV_eq (f g : E) (ρ : Rho) : eAndV f g ρ = (f ρ).bind fun a => a.1.tb.bind fun b => if b = true then g ρ else .ok (.bl false, .fr) := by
  unfold eAndV
  congr 1
  funext a
  cases a.1 with
  | bl b => cases b <;> rfl
  | _ => rfl
@[simp] theorem eOrV_eq (f g : E) (ρ : Rho) : eOrV f g ρ = (f ρ).bind fun a => a.1.tb.bind fun b => if b = true then .ok (.bl true, .fr) else g ρ := by
  unfold eOrV
  congr 1
  funext a
  cases a.1 with
  | bl b => cases b <;> rfl
  | _ => rfl
@[simp] theorem eNotV_eq (f : E) (ρ : Rho) : eNotV f ρ = (f ρ).bind fun a => a.1.tb.bind fun b => .ok (.bl (!b), .fr) := by
  unfold eNotV
  congr 1
  funext a
  cases a.1 <;> rfl
@[simp] theorem eChain_eq (o o' : D → D → Option D) (f g h : E) (ρ : Rho) : eChain o o' f g h ρ = (f ρ).bind fun a => (g ρ).bind fun b => (R.opt (o a.1 b.1)).bind fun c => c.tb.bind fun t => if t = true then ((h ρ).bind fun d => (R.opt (o' b.1 d.1)).bind fun z => .ok (z, .fr)) else .ok (.bl false, .fr) := by
  unfold eChain
  congr 1
  funext a
  congr 1
  funext b
  congr 1
  funext c
  cases c with
  | bl b => cases b <;> rfl
  | _ => rfl
/-! operators -/
@[simp] theorem oAdd_int (i j : Int) : oAdd (.int i) (.int j) = some (.int (i + j)) := rfl
@[simp] theorem oAdd_str (x y : Str) : oAdd (.str x) (.str y) = if x.length + y.length ≤ 1000000 then some (.str (x ++ y)) else none := rfl
@[simp] theorem oAdd_lst (xs ys : List D) : oAdd (.lst xs) (.lst ys) = if D.imms xs = true ∧ D.imms ys = true ∧ xs.length + ys.length ≤ 1000000 then some (.lst (xs ++ ys)) else none := rfl
@[simp] theorem oAdd_tup (xs ys : List D) : oAdd (.tup xs) (.tup ys) = if D.imms xs = true ∧ D.imms ys = true ∧ xs.isEmpty = false ∧ xs.length + ys.length ≤ 1000000 then some (.tup (xs ++ ys)) else none := rfl
@[simp] theorem oSub_int (i j : Int) : oSub (.int i) (.int j) = some (.int (i - j)) := rfl
@[simp] theorem oMul_int (i j : Int) : oMulI (.int i) (.int j) = if isSm i ∨ isSm j ∨ wd i j = true then some (.int (i * j)) else none := rfl
@[simp] theorem oDiv_int (i j : Int) : oDiv (.int i) (.int j) = if 0 < j ∧ j < 2 ^ 200 then some (.int (i / j)) else none := rfl
@[simp] theorem oMod_int (i j : Int) : oMod (.int i) (.int j) = if 0 < j then some (.int (i % j)) else none := rfl
@[simp] theorem oPow_int (i j : Int) : oPow (.int i) (.int j) = if 0 ≤ j ∧ j ≤ 1000 ∧ isSm i then some (.int (i ^ j.toNat)) else none := rfl
@[simp] theorem oShl_int (i j : Int) : oShl (.int i) (.int j) = if 0 ≤ j ∧ j ≤ 1000 ∧ isSm i then some (.int (i * 2 ^ j.toNat)) else none := rfl
@[simp] theorem oShr_int (i j : Int) : oShr (.int i) (.int j) = if 0 ≤ j then some (.int (i / 2 ^ j.toNat)) else none := rfl
@[simp] theorem oAnd_int (i j : Int) : oAnd (.int i) (.int j) = some (.int (Builtin.bitAnd i j)) := rfl
@[simp] theorem oOr_int (i j : Int) : oOr (.int i) (.int j) = some (.int (Builtin.bitOr i j)) := rfl
@[simp] theorem oXor_int (i j : Int) : oXor (.int i) (.int j) = some (.int (Builtin.bitXor i j)) := rfl
@[simp] theorem oLt_int (i j : Int) : oLt (.int i) (.int j) = some (.bl (decide (i < j))) := rfl
@[simp] theorem oLe_int (i j : Int) : oLe (.int i) (.int j) = some (.bl (decide (i ≤ j))) := rfl
@[simp] theorem oGt_int (i j : Int) : oGt (.int i) (.int j) = some (.bl (decide (j < i))) := rfl
@[simp] theorem oGe_int (i j : Int) : oGe (.int i) (.int j) = some (.bl (decide (j ≤ i))) := rfl
@[simp] theorem oEq_eq (a b : D) : oEq a b = if a.pl 9 = true ∧ b.pl 9 = true then some (.bl (a.eqv b)) else none := rfl
@[simp] theorem oNe_eq (a b : D) : oNe a b = if a.pl 9 = true ∧ b.pl 9 = true then some (.bl (!a.eqv b)) else none := rfl
@[simp] theorem oIs_eq (a b : D) : oIs a b = if b.isN then some (.bl a.isN) else none := rfl
@[simp] theorem oIsn_eq (a b : D) : oIsn a b = if b.isN then some (.bl (!a.isN)) else none := rfl
@[simp] theorem isN_non' : D.isN .non = true := rfl
@[simp] theorem isN_bl (b : Bool) : D.isN (.bl b) = false := rfl
@[simp] theorem isN_int (b : Int) : D.isN (.int b) = false := rfl
@[simp] theorem isN_str (b : Str) : D.isN (.str b) = false := rfl
@[simp] theorem isN_tup (b : List D) : D.isN (.tup b) = false := rfl
@[simp] theorem isN_lst (b : List D) : D.isN (.lst b) = false := rfl
@[simp] theorem pl_non (n : Nat) : D.pl n .non = true := by cases n <;> rfl
@[simp] theorem pl_bl (n : Nat) (b : Bool) : D.pl n (.bl b) = true := by cases n <;> rfl
@[simp] theorem pl_int (n : Nat) (b : Int) : D.pl n (.int b) = true := by cases n <;> rfl
@[simp] theorem pl_str (n : Nat) (b : Str) : D.pl n (.str b) = true := by cases n <;> rfl
@[simp] theorem pl_tup (n : Nat) (b : List D) : D.pl (n + 1) (.tup b) = D.pls n b := rfl
@[simp] theorem pl_lst (n : Nat) (b : List D) : D.pl (n + 1) (.lst b) = D.pls n b := rfl
@[simp] theorem pl_tup9 (b : List D) : D.pl 9 (.tup b) = D.pls 8 b := rfl
@[simp] theorem pl_lst9 (b : List D) : D.pl 9 (.lst b) = D.pls 8 b := rfl
@[simp] theorem pl_tup8 (b : List D) : D.pl 8 (.tup b) = D.pls 7 b := rfl
@[simp] theorem pl_lst8 (b : List D) : D.pl 8 (.lst b) = D.pls 7 b := rfl
@[simp] theorem pl_tup7 (b : List D) : D.pl 7 (.tup b) = D.pls 6 b := rfl
@[simp] theorem pl_lst7 (b : List D) : D.pl 7 (.lst b) = D.pls 6 b := rfl
@[simp] theorem pls_nil (n : Nat) : D.pls n [] = true := by cases n <;> rfl
@[simp] theorem pls_cons (n : Nat) (d : D) (ds : List D) : D.pls n (d :: ds) = (d.pl n && D.pls n ds) := by cases n <;> rfl
@[simp] theorem eqv_int (i j : Int) : D.eqv (.int i) (.int j) = (i == j) := rfl
@[simp] theorem eqv_bl (i j : Bool) : D.eqv (.bl i) (.bl j) = (i == j) := rfl
@[simp] theorem eqv_str (i j : Str) : D.eqv (.str i) (.str j) = (i == j) := rfl
@[simp] theorem eqv_non : D.eqv .non .non = true := rfl
@[simp] theorem eqv_tup (i j : List D) : D.eqv (.tup i) (.tup j) = D.eqvs i j := rfl
@[simp] theorem eqv_lst (i j : List D) : D.eqv (.lst i) (.lst j) = D.eqvs i j := rfl
@[simp] theorem eqvs_nil : D.eqvs [] [] = true := rfl
@[simp] theorem eqvs_cons (a b : D) (x y : List D) : D.eqvs (a :: x) (b :: y) = (D.eqv a b && D.eqvs x y) := rfl
@[simp] theorem eqvs_nc (b : D) (y : List D) : D.eqvs [] (b :: y) = false := rfl
@[simp] theorem eqvs_cn (b : D) (y : List D) : D.eqvs (b :: y) [] = false := rfl
@[simp] theorem tru_bl (b : Bool) : truD (.bl b) = some b := rfl
@[simp] theorem tru_int (b : Int) : truD (.int b) = some (b != 0) := rfl
@[simp] theorem tru_non : truD .non = some false := rfl
@[simp] theorem tru_tup (b : List D) : truD (.tup b) = some (!b.isEmpty) := rfl
@[simp] theorem tru_lst (b : List D) : truD (.lst b) = some (!b.isEmpty) := rfl
@[simp] theorem tru_str (s : Str) : truD (.str s) = if s.length ≤ 1000000 then some (s.length != 0) else none := rfl
@[simp] theorem ix_lst (xs : List D) (i : Int) : ixD (.lst xs) (.int i) = atI xs i := rfl
@[simp] theorem ix_tup' (xs : List D) (i : Int) : ixD (.tup xs) (.int i) = atI xs i := rfl
@[simp] theorem ix_scr (xs : List Int) (i : Int) : ixD (.scr xs) (.int i) = (atI xs i).map .int := rfl
@[simp] theorem ix_dct (ks : List Key) (ds : List D) (k : D) : ixD (.dct ks ds) k = k.key.bind fun k => lkD ks ds k := rfl
@[simp] theorem atI_0 {α : Type} (a : α) (xs : List α) : atI (a :: xs) 0 = some a := by
  unfold atI ixN
  rw [if_pos (Int.le_refl 0), if_pos (by rw [List.length_cons]; omega)]
  rfl
@[simp] theorem atI_1 {α : Type} (a0 a1 : α) (xs : List α) : atI (a0 :: a1 :: xs) 1 = some a1 := by
  unfold atI ixN
  rw [if_pos (by decide), if_pos (by simp only [List.length_cons]; omega)]
  rfl
@[simp] theorem atI_2 {α : Type} (a0 a1 a2 : α) (xs : List α) : atI (a0 :: a1 :: a2 :: xs) 2 = some a2 := by
  unfold atI ixN
  rw [if_pos (by decide), if_pos (by simp only [List.length_cons]; omega)]
  rfl
@[simp] theorem atI_3 {α : Type} (a0 a1 a2 a3 : α) (xs : List α) : atI (a0 :: a1 :: a2 :: a3 :: xs) 3 = some a3 := by
  unfold atI ixN
  rw [if_pos (by decide), if_pos (by simp only [List.length_cons]; omega)]
  rfl
@[simp] theorem atI_4 {α : Type} (a0 a1 a2 a3 a4 : α) (xs : List α) : atI (a0 :: a1 :: a2 :: a3 :: a4 :: xs) 4 = some a4 := by
  unfold atI ixN
  rw [if_pos (by decide), if_pos (by simp only [List.length_cons]; omega)]
  rfl
@[simp] theorem atI_5 {α : Type} (a0 a1 a2 a3 a4 a5 : α) (xs : List α) : atI (a0 :: a1 :: a2 :: a3 :: a4 :: a5 :: xs) 5 = some a5 := by
  unfold atI ixN
  rw [if_pos (by decide), if_pos (by simp only [List.length_cons]; omega)]
  rfl
@[simp] theorem atI_6 {α : Type} (a0 a1 a2 a3 a4 a5 a6 : α) (xs : List α) : atI (a0 :: a1 :: a2 :: a3 :: a4 :: a5 :: a6 :: xs) 6 = some a6 := by
  unfold atI ixN
  rw [if_pos (by decide), if_pos (by simp only [List.length_cons]; omega)]
  rfl
@[simp] theorem atI_7 {α : Type} (a0 a1 a2 a3 a4 a5 a6 a7 : α) (xs : List α) : atI (a0 :: a1 :: a2 :: a3 :: a4 :: a5 :: a6 :: a7 :: xs) 7 = some a7 := by
  unfold atI ixN
  rw [if_pos (by decide), if_pos (by simp only [List.length_cons]; omega)]
  rfl
@[simp] theorem atI_8 {α : Type} (a0 a1 a2 a3 a4 a5 a6 a7 a8 : α) (xs : List α) : atI (a0 :: a1 :: a2 :: a3 :: a4 :: a5 :: a6 :: a7 :: a8 :: xs) 8 = some a8 := by
  unfold atI ixN
  rw [if_pos (by decide), if_pos (by simp only [List.length_cons]; omega)]
  rfl
@[simp] theorem atI_9 {α : Type} (a0 a1 a2 a3 a4 a5 a6 a7 a8 a9 : α) (xs : List α) : atI (a0 :: a1 :: a2 :: a3 :: a4 :: a5 :: a6 :: a7 :: a8 :: a9 :: xs) 9 = some a9 := by
  unfold atI ixN
  rw [if_pos (by decide), if_pos (by simp only [List.length_cons]; omega)]
  rfl
@[simp] theorem atI_10 {α : Type} (a0 a1 a2 a3 a4 a5 a6 a7 a8 a9 a10 : α) (xs : List α) : atI (a0 :: a1 :: a2 :: a3 :: a4 :: a5 :: a6 :: a7 :: a8 :: a9 :: a10 :: xs) 10 = some a10 := by
  unfold atI ixN
  rw [if_pos (by decide), if_pos (by simp only [List.length_cons]; omega)]
  rfl
@[simp] theorem atI_11 {α : Type} (a0 a1 a2 a3 a4 a5 a6 a7 a8 a9 a10 a11 : α) (xs : List α) : atI (a0 :: a1 :: a2 :: a3 :: a4 :: a5 :: a6 :: a7 :: a8 :: a9 :: a10 :: a11 :: xs) 11 = some a11 := by
  unfold atI ixN
  rw [if_pos (by decide), if_pos (by simp only [List.length_cons]; omega)]
  rfl
@[simp] theorem atI_12 {α : Type} (a0 a1 a2 a3 a4 a5 a6 a7 a8 a9 a10 a11 a12 : α) (xs : List α) : atI (a0 :: a1 :: a2 :: a3 :: a4 :: a5 :: a6 :: a7 :: a8 :: a9 :: a10 :: a11 :: a12 :: xs) 12 = some a12 := by
  unfold atI ixN
  rw [if_pos (by decide), if_pos (by simp only [List.length_cons]; omega)]
  rfl
theorem atI_get' {α : Type} {xs : List α} {i : Int} (h0 : 0 ≤ i) (h1 : i < xs.length) : atI xs i = xs[i.toNat]? := by
  unfold atI ixN
  rw [if_pos h0, if_pos h1]
  rfl
theorem atI_mem {α : Type} {xs : List α} {i : Int} (h0 : 0 ≤ i) (h1 : i < xs.length) : ∃ x ∈ xs, atI xs i = some x := by
  rw [atI_get' h0 h1]
  have h : i.toNat < xs.length := by omega
  exact ⟨xs[i.toNat], List.getElem_mem h, List.getElem?_eq_getElem h⟩
@[simp] theorem oLen_lst (xs : List D) : oLen [.lst xs] = some (.int xs.length) := rfl
@[simp] theorem oLen_tup (xs : List D) : oLen [.tup xs] = some (.int xs.length) := rfl
@[simp] theorem oLen_scr (xs : List Int) : oLen [.scr xs] = some (.int xs.length) := rfl
@[simp] theorem oLen_str (x : Str) : oLen [.str x] = if x.length ≤ 1000000 then some (.int x.length) else none := rfl
@[simp] theorem oLen_dct (xs : List Key) (ds : List D) : oLen [.dct xs ds] = some (.int xs.length) := rfl
@[simp] theorem oInt_int (i : Int) : oInt [.int i] = some (.int i) := rfl
@[simp] theorem oInt_bl (b : Bool) : oInt [.bl b] = some (.int (if b then 1 else 0)) := rfl
@[simp] theorem isi_int_int (i : Int) : oIsi [.int i, .ty "int"] = some (.bl true) := rfl
@[simp] theorem isi_int_bool (i : Int) : oIsi [.int i, .ty "bool"] = some (.bl false) := rfl
@[simp] theorem isi_int_str (i : Int) : oIsi [.int i, .ty "str"] = some (.bl false) := rfl
@[simp] theorem isi_int_tup (i : Int) : oIsi [.int i, .ty "tuple"] = some (.bl false) := rfl
@[simp] theorem isi_int_lst (i : Int) : oIsi [.int i, .ty "list"] = some (.bl false) := rfl
@[simp] theorem isi_bl_int (i : Bool) : oIsi [.bl i, .ty "int"] = some (.bl true) := rfl
@[simp] theorem isi_bl_bool (i : Bool) : oIsi [.bl i, .ty "bool"] = some (.bl true) := rfl
@[simp] theorem isi_bl_str (i : Bool) : oIsi [.bl i, .ty "str"] = some (.bl false) := rfl
@[simp] theorem isi_bl_tup (i : Bool) : oIsi [.bl i, .ty "tuple"] = some (.bl false) := rfl
@[simp] theorem isi_bl_lst (i : Bool) : oIsi [.bl i, .ty "list"] = some (.bl false) := rfl
@[simp] theorem isi_str_int (i : Str) : oIsi [.str i, .ty "int"] = some (.bl false) := rfl
@[simp] theorem isi_str_bool (i : Str) : oIsi [.str i, .ty "bool"] = some (.bl false) := rfl
@[simp] theorem isi_str_str (i : Str) : oIsi [.str i, .ty "str"] = some (.bl true) := rfl
@[simp] theorem isi_str_tup (i : Str) : oIsi [.str i, .ty "tuple"] = some (.bl false) := rfl
@[simp] theorem isi_str_lst (i : Str) : oIsi [.str i, .ty "list"] = some (.bl false) := rfl
@[simp] theorem isi_tup_int (i : List D) : oIsi [.tup i, .ty "int"] = some (.bl false) := rfl
@[simp] theorem isi_tup_bool (i : List D) : oIsi [.tup i, .ty "bool"] = some (.bl false) := rfl
@[simp] theorem isi_tup_str (i : List D) : oIsi [.tup i, .ty "str"] = some (.bl false) := rfl
@[simp] theorem isi_tup_tup (i : List D) : oIsi [.tup i, .ty "tuple"] = some (.bl true) := rfl
@[simp] theorem isi_tup_lst (i : List D) : oIsi [.tup i, .ty "list"] = some (.bl false) := rfl
@[simp] theorem isi_lst_int (i : List D) : oIsi [.lst i, .ty "int"] = some (.bl false) := rfl
@[simp] theorem isi_lst_bool (i : List D) : oIsi [.lst i, .ty "bool"] = some (.bl false) := rfl
@[simp] theorem isi_lst_str (i : List D) : oIsi [.lst i, .ty "str"] = some (.bl false) := rfl
@[simp] theorem isi_lst_tup (i : List D) : oIsi [.lst i, .ty "tuple"] = some (.bl false) := rfl
@[simp] theorem isi_lst_lst (i : List D) : oIsi [.lst i, .ty "list"] = some (.bl true) := rfl
@[simp] theorem isi_non_int : oIsi [.non, .ty "int"] = some (.bl false) := rfl
@[simp] theorem isi_non_bool : oIsi [.non, .ty "bool"] = some (.bl false) := rfl
@[simp] theorem isi_non_str : oIsi [.non, .ty "str"] = some (.bl false) := rfl
@[simp] theorem isi_non_tup : oIsi [.non, .ty "tuple"] = some (.bl false) := rfl
@[simp] theorem isi_non_lst : oIsi [.non, .ty "list"] = some (.bl false) := rfl
@[simp] theorem itBy_eq (f : List D → Option (List D)) (g : EA) (ρ : Rho) : itBy f g ρ = (g ρ).bind fun a => R.opt (f a.1) := rfl
@[simp] theorem rng1_int (j : Int) : rng1 [.int j] = if -1000000000 ≤ j ∧ j ≤ 1000000000 then some (rngD 0 j.toNat) else none := rfl
@[simp] theorem rng2_int (i j : Int) : rng2 [.int i, .int j] = if -1000000000 ≤ i ∧ i ≤ 1000000000 ∧ -1000000000 ≤ j ∧ j ≤ 1000000000 then some (rngD i (j - i).toNat) else none := rfl
theorem rngD_len (lo : Int) (n : Nat) : (rngD lo n).length = n := by unfold rngD; rw [List.length_map, List.length_range]
@[simp] theorem forL_nil (st : Tg) (f : S) (ρ : Rho) : forL st f [] ρ = .nx ρ := rfl
/-- a loop whose every turn goes on: an invariant of the state -/
theorem forL_inv {st : Tg} {f : S} (P : Nat → Rho → Prop) {ds : List D} {ρ : Rho} (h0 : P 0 ρ)
    (hs : ∀ i d ρ, ds[i]? = some d → P i ρ → ∃ ρ1, st d ρ = some ρ1 ∧ ∃ ρ2, (f ρ1 = .nx ρ2 ∨ f ρ1 = .ct ρ2) ∧ P (i + 1) ρ2) : ∃ ρ', forL st f ds ρ = .nx ρ' ∧ P ds.length ρ' := by
  suffices h : ∀ (es : List D) (k : Nat) (ρ : Rho), (∀ i, es[i]? = ds[k + i]?) → P k ρ → ∃ ρ', forL st f es ρ = .nx ρ' ∧ P (k + es.length) ρ' by
    have := h ds 0 ρ (fun i => by rw [Nat.zero_add]) h0
    rw [Nat.zero_add] at this
    exact this
  intro es
  induction es with
  | nil => exact fun k ρ _ p => ⟨ρ, rfl, p⟩
  | cons e es ih =>
    intro k ρ he p
    obtain ⟨ρ1, h1, ρ2, h2, p2⟩ := hs k e ρ (by have := he 0; simpa using this.symm) p
    obtain ⟨ρ', h3, p3⟩ := ih (k + 1) ρ2 (fun i => by have := he (i + 1); simp at this; rw [this]; congr 1; omega) p2
    refine ⟨ρ', ?_, ?_⟩
    · unfold forL
      rw [h1]
      rcases h2 with h2 | h2 <;> (simp only [h2]; exact h3)
    · rw [List.length_cons]
      have e1 : k + (es.length + 1) = k + 1 + es.length := by omega
      rw [e1]
      exact p3
@[simp] theorem isSm_eq (i : Int) : isSm i = (-18446744073709551616 < i ∧ i < 18446744073709551616) := rfl
@[simp] theorem tgN_eq (i : Nat) (d : D) (ρ : Rho) : tgN i d ρ = stSl i d .sh ρ := rfl
theorem eleven {k : Int} (h0 : 0 ≤ k) (h1 : k < 11) : k = 0 ∨ k = 1 ∨ k = 2 ∨ k = 3 ∨ k = 4 ∨ k = 5 ∨ k = 6 ∨ k = 7 ∨ k = 8 ∨ k = 9 ∨ k = 10 := by omega
end Dn
set_option Elab.async false
set_option linter.all false
set_option maxRecDepth 100000
set_option maxHeartbeats 2000000
/-! Dn12: more by values: minus, in, slices, times, built-in calls. -/
namespace Dn
open PySem L2

section
variable {X : Cx} {G : Cts} {W : WX}
/-! ### one place -/
abbrev R1 := V → Hp → VK → Prop
def Op1 (G : Cts) (r : R1) (f : D → Option D) : Prop :=
  ∀ x d H, Rep G Nav H d x → ∀ c, f d = some c → ∀ Q : VK, (∀ v H', Same H H' → Fresh G H H' c v → Q v H') → r x H Q
def eUn (op : D → Option D) (f : E) : E := fun ρ => (f ρ).bind fun a => (R.opt (op a.1)).bind fun c => .ok (c, .fr)
theorem px_un {a : Expr} {pos : Pos} {o : UnaryOp} {op : D → Option D} {r : R1} {f : E} (hr : UnR X (unaryOp o) r) (ho : Op1 G r op) (ha : PE X a (tE G W f)) : PE X (.UnaryOp o a pos) (tE G W (eUn op f)) := by
  refine PE.of (pe_un hr ha) fun σ H Q ⟨fp, fv, ρ, I, q⟩ => ?_
  refine tE.of_bind (y := yE G W fp σ H Q) I q (fun e h => h) (fun h => h) fun d m q v H1 e1 v1 => ?_
  cases z : op d with
  | none =>
    simp only [z] at q
    exact q.elim
  | some c =>
    simp only [z] at q
    exact ho v d H1 v1.tr c z Q fun v' H' e' f' => q v' H' (e1.trans e') (f'.back e1)
def oNeg : D → Option D := fun a => match a with
  | .int i => some (.int (-i))
  | _ => none
theorem op1_neg : Op1 G (rU fun i => .int (-i)) oNeg := by
  intro x d H hx c hc Q k
  unfold oNeg at hc
  split at hc
  · rename_i i
    cases hc
    obtain rfl : x = .int i := hx
    exact ⟨i, rfl, k _ H (Same.refl H) Fresh.int⟩
  · cases hc

/-! ### in -/
def inS (x z : Str) : Bool := !(Builtin.Str.occurrences z x 0 z.length 1).isEmpty
def inT (x z : Str) : Bool := match x.cps.toList with
  | [c] => decide (c ∈ z.cps.toList)
  | _ => inS x z
def D.seqD : D → Option (List D)
  | .lst xs => some xs
  | .tup xs => some xs
  | _ => none
def oInB (a b : D) : Option Bool := match b with
  | .str z => (match a with
    | .str x => some (inT x z)
    | _ => none)
  | .lst xs => if a.pl 9 = true ∧ D.pls 9 xs = true then some (xs.any fun y => y.eqv a) else none
  | .tup xs => if a.pl 9 = true ∧ D.pls 9 xs = true then some (xs.any fun y => y.eqv a) else none
  | _ => none
def oIn : D → D → Option D := fun a b => (oInB a b).map .bl
def oNotIn : D → D → Option D := fun a b => (oInB a b).map fun c => .bl !c
/-- the rule: a text, a list, a tuple of plain things -/
def rInA (K : PySem.W.Frag) (g : Bool → Bool) : R2 := fun x y H Q =>
  (∃ i j, x = .str i ∧ y = .str j ∧ Q (.bl (g (inS i j))) H) ∨ (∃ (c : Nat) (z : Str), x = .str ⟨#[c]⟩ ∧ y = .str z ∧ Q (.bl (g (decide (c ∈ z.cps.toList)))) H) ∨
    ∃ d ds, Dp K H x d ∧ (Dp K H y (.list ds) ∨ Dp K H y (.tuple ds)) ∧ d.plain = true ∧ PyData.plainAll ds = true ∧ d.depth ≤ 60 ∧ Q (.bl (g (ds.any fun z => PyData.eqv z d))) H
theorem op_inA (hu : X.A.units + 64 < cLine) : OpR X (compareOp .In) (rInA X.K id) := by
  intro pins s σ H x y v u Q I rx ry h
  rcases h with h | h | h
  · exact op_in_str pins s σ H x y v u Q I rx ry h
  · exact op_in_sign pins s σ H x y v u Q I rx ry h
  · obtain ⟨d, ds, hd, he, p1, p2, hn, q⟩ := h
    obtain ⟨as, r1⟩ := Dp.reads I d x v hd rx
    rcases he with he | he
    · obtain ⟨bs, r2⟩ := Dp.reads I _ y u he ry
      exact SeqAt.in_list_data r2 r1 p2 p1 (by have := Nat.min_le_right (PyData.depthAll ds) d.depth; omega) ⟨.bl _, H, I, rfl, q⟩
    · obtain ⟨bs, r2⟩ := Dp.reads I _ y u he ry
      exact SeqAt.in_tuple_data r2 r1 p2 p1 (by have := Nat.min_le_right (PyData.depthAll ds) d.depth; omega) ⟨.bl _, H, I, rfl, q⟩
theorem op_notInA (hu : X.A.units + 64 < cLine) : OpR X (compareOp .NotIn) (rInA X.K not) := by
  intro pins s σ H x y v u Q I rx ry h
  rcases h with h | h | h
  · exact op_notin_str pins s σ H x y v u Q I rx ry h
  · exact op_notIn_sign pins s σ H x y v u Q I rx ry h
  · obtain ⟨d, ds, hd, he, p1, p2, hn, q⟩ := h
    obtain ⟨as, r1⟩ := Dp.reads I d x v hd rx
    rcases he with he | he
    · obtain ⟨bs, r2⟩ := Dp.reads I _ y u he ry
      exact SeqAt.notIn_list_data r2 r1 p2 p1 (by have := Nat.min_le_right (PyData.depthAll ds) d.depth; omega) ⟨.bl _, H, I, rfl, q⟩
    · obtain ⟨bs, r2⟩ := Dp.reads I _ y u he ry
      exact SeqAt.notIn_tuple_data r2 r1 p2 p1 (by have := Nat.min_le_right (PyData.depthAll ds) d.depth; omega) ⟨.bl _, H, I, rfl, q⟩
theorem any_py {a : D} (ha : a.pl 9 = true) : ∀ {xs : List D}, D.pls 9 xs = true → ((D.pys xs).any fun z => PyData.eqv z a.py) = xs.any fun y => y.eqv a
  | [], _ => rfl
  | x :: xs, h => by
    have h' : (x.pl 9 && D.pls 9 xs) = true := h
    rw [Bool.and_eq_true] at h'
    show (PyData.eqv x.py a.py || (D.pys xs).any fun z => PyData.eqv z a.py) = (x.eqv a || xs.any fun y => y.eqv a)
    rw [D.eqv_py 9 9 x a h'.1 ha, any_py ha h'.2]
theorem op2_inB {g : Bool → Bool} {f : D → D → Option D} (hf : ∀ a b, f a b = (oInB a b).map fun c => .bl (g c)) : Op2 G (rInA G.K g) f := by
  intro x y d e H hx hy c hc Q k
  rw [hf] at hc
  cases z : oInB d e with
  | none =>
    rw [z] at hc
    cases hc
  | some b =>
    rw [z] at hc
    cases hc
    have k' : Q (.bl (g b)) H := k _ H (Same.refl H) Fresh.bl
    unfold oInB at z
    split at z
    · rename_i t
      obtain rfl : y = .str t := hy
      split at z
      · rename_i i
        obtain rfl : x = .str i := hx
        cases z
        unfold inT at k'
        split at k'
        · rename_i c e
          refine .inr (.inl ⟨c, t, ?_, rfl, k'⟩)
          congr 1
          cases i with
          | mk a =>
            congr 1
            apply Array.ext'
            exact e
        · exact .inl ⟨i, t, rfl, rfl, k'⟩
      · cases z
    all_goals first
      | (rename_i xs
         split at z
         · rename_i p
           cases z
           obtain ⟨p1, n1⟩ := D.pl_plain 9 d p.1
           obtain ⟨p2, n2⟩ := D.pls_plain 9 xs p.2
           obtain ⟨a, vs, rfl, r⟩ := hy
           rw [← any_py p.1 p.2] at k'
           first
             | exact .inr (.inr ⟨d.py, D.pys xs, D.dp 9 d x p.1 hx, .inl (Dp.lst (SqL.of r.2.1) (D.dps 9 xs vs p.2 r.2.2)), p1, p2, by omega, k'⟩)
             | exact .inr (.inr ⟨d.py, D.pys xs, D.dp 9 d x p.1 hx, .inr (Dp.tup r.1 (D.dps 9 xs vs p.2 r.2)), p1, p2, by omega, k'⟩)
         · cases z)
      | cases z
theorem op2_in : Op2 G (rInA G.K id) oIn := op2_inB fun _ _ => rfl
theorem op2_notIn : Op2 G (rInA G.K not) oNotIn := op2_inB fun _ _ => rfl

/-! ### times -/
def oRep : D → D → Option D := fun a b => match b with
  | .int k => (match a with
    | .lst xs => if D.imms xs = true ∧ k ≤ 1000000 ∧ -1000000 ≤ k ∧ xs.length * k.toNat ≤ 1000000 then some (.lst (List.replicate k.toNat xs).flatten) else none
    | _ => none)
  | _ => none
theorem Reps.flat {av : Addr → Prop} {H : Hp} {xs : List D} {vs : List V} (h : Reps G av H xs vs) : ∀ n, Reps G av H (List.replicate n xs).flatten (List.replicate n vs).flatten
  | 0 => rfl
  | n + 1 => by
    rw [List.replicate_succ, List.replicate_succ, List.flatten_cons, List.flatten_cons]
    exact Reps.append h (Reps.flat h n)
theorem imms_flat {xs : List D} (h : D.imms xs = true) : ∀ n, D.imms (List.replicate n xs).flatten = true
  | 0 => rfl
  | n + 1 => by
    rw [List.replicate_succ, List.flatten_cons, imms_append, h, imms_flat h n]
    rfl
theorem op2_rep : Op2 G rRep oRep := by
  intro x y d e H hx hy c hc Q k
  unfold oRep at hc
  split at hc
  · rename_i j
    obtain rfl : y = .int j := hy
    split at hc
    · rename_i xs
      obtain ⟨a, vs, rfl, _, s, r⟩ := hx
      split at hc
      · rename_i h
        cases hc
        refine ⟨a, j, vs, rfl, rfl, s, by omega, by omega, ?_, fun p hp => ?_⟩
        · rw [← r.length]
          exact line_big h.2.2.2
        · exact k _ _ (same_new hp) (Fresh.lst (imms_flat h.1 _) (Reps.flat r _) hp)
      · cases hc
    · cases hc
  · cases hc
end
end Dn
set_option Elab.async false
set_option linter.all false
set_option maxRecDepth 100000
set_option maxHeartbeats 2000000
/-! Dn13: slices; list, tuple, all, sum, max, min, sorted, divmod; methods of texts. -/
namespace Dn
open PySem L2

/-- parts of a list between two places -/
def cutL {α : Type} (xs : List α) (lo hi : Option Int) : List α := (xs.drop (HT.sIx xs.length 0 lo)).take (HT.sIx xs.length xs.length hi - HT.sIx xs.length 0 lo)
abbrev EP := Rho → R (Option Int)
def pNo : EP := fun _ => .ok none
def pAt (f : E) : EP := fun ρ => (f ρ).bind fun a => match a.1 with
  | .int i => .ok (some i)
  | _ => .bad
def tO (G : Cts) (W : WX) (f : EP) : TO := fun σ H Q => ∃ fp fv ρ, LSR G fp fv σ H ρ ∧ match f ρ with
  | .ok b => ∀ H', Same H H' → Q b H'
  | .ex e => ∀ H', Same H H' → W (.ref (G.cls e)) none σ H'
  | .bad => False
abbrev yO (G : Cts) (W : WX) (σ : L2.St) (H : Hp) (Q : Option Int → Hp → Prop) : R (Option Int) → Prop
  | .ok b => ∀ H', Same H H' → Q b H'
  | .ex e => ∀ H', Same H H' → W (.ref (G.cls e)) none σ H'
  | .bad => False
/-- no list, dict or instance within, but maybe itself a list -/
def D.flat : D → Bool
  | .lst xs => D.imms xs
  | d => d.imm
def flM (d : D) (m : Md) : Md := if d.flat = true then .fr else m.lo
def slD (a : D) (lo hi : Option Int) : Option D := match a with
  | .lst xs => some (.lst (cutL xs lo hi))
  | .tup xs => some (.tup (cutL xs lo hi))
  | .scr ns => some (.lst ((cutL ns lo hi).map .int))
  | .str z => if z.length ≤ 1000000 then some (.str (cutS z lo hi)) else none
  | _ => none
def eSl (f : E) (lo hi : EP) : E := fun ρ => (f ρ).bind fun a => (lo ρ).bind fun l => (hi ρ).bind fun h => (R.opt (slD a.1 l h)).bind fun c => .ok (c, flM c a.2)
section
variable {X : Cx} {G : Cts} {W : WX}
theorem PO.of {e : Option Expr} {t t' : TO} (h : PO X e t) (k : ∀ σ H Q, t' σ H Q → t σ H Q) : PO X e t' := ⟨fun pins s σ H Q I hw => h.run pins s σ H Q I (k σ H Q hw)⟩
theorem tO.of_bind {α : Type} {f : EP} {k : Option Int → R α} {y : R α → Prop} {σ : L2.St} {H : Hp} {Q : Option Int → Hp → Prop} {fp : Nat → List Addr} {fv : Nat → Option V} {ρ : Rho} (I : LSR G fp fv σ H ρ) (q : y ((f ρ).bind k))
    (hx : ∀ e, y (.ex e) → ∀ H', Same H H' → W (.ref (G.cls e)) none σ H') (hb : ¬ y .bad) (hk : ∀ b, y (k b) → ∀ H', Same H H' → Q b H') : tO G W f σ H Q := by
  refine ⟨fp, fv, ρ, I, ?_⟩
  cases z : f ρ with
  | ok b =>
    rw [z] at q
    exact hk b q
  | ex e =>
    rw [z] at q
    exact hx e q
  | bad =>
    rw [z] at q
    exact hb q
theorem po_no : PO X none (tO G W pNo) := PO.of po_none fun σ H Q ⟨fp, fv, ρ, I, q⟩ => q H (Same.refl H)
theorem po_at {e : Expr} {f : E} (h : PE X e (tE G W f)) : PO X (some e) (tO G W (pAt f)) := by
  refine PO.of (po_some h) fun σ H Q ⟨fp, fv, ρ, I, q⟩ => ?_
  refine tE.of_bind (y := yO G W σ H Q) I q (fun e h => h) (fun h => h) fun d m q v H1 e1 v1 => ?_
  cases d with
  | int i =>
    obtain rfl : v = .int i := v1.tr
    exact ⟨i, rfl, q H1 e1⟩
  | _ => exact q.elim
theorem Reps.drop {av : Addr → Prop} {H : Hp} : ∀ {ds : List D} {vs : List V} (n : Nat), Reps G av H ds vs → Reps G av H (ds.drop n) (vs.drop n)
  | _, _, 0, h => h
  | [], _, n + 1, h => by
    subst h
    exact rfl
  | d :: ds, _, n + 1, ⟨v, r, e, _, h⟩ => by
    subst e
    exact Reps.drop n h
theorem Reps.take {av : Addr → Prop} {H : Hp} : ∀ {ds : List D} {vs : List V} (n : Nat), Reps G av H ds vs → Reps G av H (ds.take n) (vs.take n)
  | _, _, 0, h => by
    rw [List.take_zero, List.take_zero]
    exact rfl
  | [], _, n + 1, h => by
    subst h
    exact rfl
  | d :: ds, _, n + 1, ⟨v, r, e, h1, h⟩ => by
    subst e
    exact ⟨v, _, rfl, h1, Reps.take n h⟩
theorem Reps.cut {av : Addr → Prop} {H : Hp} {ds : List D} {vs : List V} (h : Reps G av H ds vs) (lo hi : Option Int) : Reps G av H (cutL ds lo hi) (cutV vs lo hi) := by
  unfold cutL cutV
  rw [h.length]
  exact Reps.take _ (Reps.drop _ h)
theorem cut_map {α β : Type} (f : α → β) (xs : List α) (lo hi : Option Int) : cutL (xs.map f) lo hi = (cutL xs lo hi).map f := by
  unfold cutL
  rw [List.length_map, List.map_take, List.map_drop]
theorem reps_ints {av : Addr → Prop} {H : Hp} : ∀ ns : List Int, Reps G av H (ns.map D.int) (ns.map V.int)
  | [] => rfl
  | n :: ns => ⟨_, _, rfl, rfl, reps_ints ns⟩
theorem imms_ints : ∀ ns : List Int, D.imms (ns.map D.int) = true
  | [] => rfl
  | n :: ns => imms_ints ns
/-- a new list of what was read -/
theorem VOk.newL {fp : Nat → List Addr} {fv : Nat → Option V} {σ : L2.St} {ρ : Rho} {H H1 : Hp} {m : Md} {ds : List D} {vs : List V} {p : Addr} (I : LSR G fp fv σ H ρ) (e1 : Same H H1) (r : Reps G (avM fp m) H1 ds vs) (hp : H1 p = none) :
    VOk G fp H (upd H1 p (.lst vs)) (flM (.lst ds) m) (.lst ds) (.ref p) := by
  unfold flM
  by_cases im : D.flat (.lst ds) = true
  · rw [if_pos im]
    exact Fresh.back e1 (Fresh.lst im r.tr hp)
  · rw [if_neg im]
    refine VOk.of_av ⟨p, vs, rfl, fun z => ?_, upd_same, r.same (same_new hp)⟩
    have : Own fp p := by cases m <;> first | exact z | exact z.elim
    obtain ⟨i, hi⟩ := this
    obtain ⟨o, q⟩ := I.al i p hi
    rw [e1 _ _ q] at hp
    cases hp
theorem VOk.newT {fp : Nat → List Addr} {H H1 : Hp} {m : Md} {ds : List D} {vs : List V} {v : V} {H2 : Hp} (e1 : Same H H1) (e2 : Same H1 H2) (r : Rep G (avM fp m) H2 (.tup ds) v) :
    VOk G fp H H2 (flM (.tup ds) m) (.tup ds) v := by
  unfold flM
  by_cases im : D.flat (.tup ds) = true
  · rw [if_pos im]
    exact Fresh.of_imm im r
  · rw [if_neg im]
    exact VOk.of_av r
def rSlAll (K : PySem.W.Frag) : V → Option Int → Option Int → Hp → VK → Prop := fun x lo hi H Q => rSlL K x lo hi H Q ∨ (fun x lo hi H Q => rSlA K x lo hi H Q ∨ rSlS x lo hi H Q) x lo hi H Q
theorem sl_all : SlR X (rSlAll X.K) := sl_list.or (sl_tupA.or sl_str)
theorem cutV_whole {vs : List V} {lo hi : Option Int} (h : HT.sIx vs.length 0 lo = 0 ∧ HT.sIx vs.length vs.length hi = vs.length) : cutV vs lo hi = vs := by
  unfold cutV
  rw [h.1, h.2, List.drop_zero, Nat.sub_zero, List.take_length]
theorem px_slice {e : Expr} {lo hi : Option Expr} {p2 pos : Pos} {f : E} {l h : EP} (he : PE X e (tE G W f)) (hl : PO X lo (tO G W l)) (hh : PO X hi (tO G W h)) (hK : X.K = G.K := by rfl) : PE X (.Subscript e (.Slice lo hi none p2) pos) (tE G W (eSl f l h)) := by
  refine PE.of (pe_slice sl_all he hl hh) fun σ H Q ⟨fp, fv, ρ, I, q⟩ => ?_
  refine tE.of_bind (y := yE G W fp σ H Q) I q (fun e h => h) (fun h => h) fun d m q v H1 e1 v1 => ?_
  have I1 := I.same e1
  refine tO.of_bind (y := yE G W fp σ H Q) I1 q (fun e h H' e' => h H' (e1.trans e')) (fun h => h) fun o1 q H2 e2 => ?_
  refine tO.of_bind (y := yE G W fp σ H Q) (I1.same e2) q (fun e h H' e' => h H' ((e1.trans e2).trans e')) (fun h => h) fun o2 q H3 e3 => ?_
  have e123 := (e1.trans e2).trans e3
  have r : Rep G (avM fp m) H3 d v := (((v1.lo I).same (e2.trans e3))).av
  cases z : slD d o1 o2 with
  | none =>
    simp only [z] at q
    exact q.elim
  | some c =>
    simp only [z] at q
    have q : ∀ v H', Same H H' → VOk G fp H H' (flM c m) c v → Q v H' := q
    cases d with
    | lst xs =>
      cases z
      obtain ⟨a, vs, rfl, n, s, rs⟩ := r
      refine .inl ?_
      rw [hK]
      exact ⟨a, vs, rfl, SqL.of s, fun p hp => q _ _ (e123.trans (same_new hp)) (VOk.newL I e123 (rs.cut o1 o2) hp)⟩
    | scr ns =>
      cases z
      obtain ⟨a, rfl, s⟩ := r
      refine .inl ?_
      rw [hK]
      refine ⟨a, _, rfl, s.seq, fun p hp => q _ _ (e123.trans (same_new hp)) (VOk.newL I e123 ?_ hp)⟩
      rw [← cut_map]
      exact Reps.cut (reps_ints ns) o1 o2
    | tup xs =>
      cases z
      obtain ⟨a, vs, rfl, s, rs⟩ := r
      refine .inr (.inl ?_)
      rw [hK]
      refine ⟨a, vs, rfl, s, fun w => ?_, fun w p hp => ?_⟩
      · refine q _ _ e123 (VOk.newT (vs := vs) e123 (Same.refl _) ⟨a, vs, rfl, s, ?_⟩)
        have := rs.cut o1 o2
        rw [cutV_whole w] at this
        exact this
      · exact q _ _ (e123.trans (same_new hp)) (VOk.newT (vs := vs) e123 (same_new hp) ⟨p, _, rfl, SqT.of upd_same, (rs.cut o1 o2).same (same_new hp)⟩)
    | str x =>
      obtain rfl : v = .str x := r
      have z : (if x.length ≤ 1000000 then some (D.str (cutS x o1 o2)) else none) = some c := z
      by_cases hl : x.length ≤ 1000000
      · rw [if_pos hl] at z
        cases z
        exact .inr (.inr ⟨x, rfl, line_big hl, q _ _ e123 (by
          rw [show flM (.str (cutS x o1 o2)) m = .fr from if_pos rfl]
          exact Fresh.str)⟩)
      · rw [if_neg hl] at z
        cases z
    | _ => cases z

/-! ### list(), tuple() -/
def seqOf : D → Option (List D)
  | .lst xs => some xs
  | .tup xs => some xs
  | .scr ns => some (ns.map .int)
  | _ => none
def keyD : Key → D
  | .inl i => .int i
  | .inr s => .str s
def lstOf (a : D) : Option D := match a with
  | .dct ks _ => some (.lst (ks.map keyD))
  | a => (seqOf a).map .lst
def tupOf (a : D) : Option D := (seqOf a).map .tup
/-- a copy: the parts stay -/
def eCopy (op : D → Option D) (g : EA) : E := fun ρ => (g ρ).bind fun a => match a.1 with
  | [d] => (R.opt (op d)).bind fun c => .ok (c, flM c a.2)
  | _ => .bad
theorem VsOk.one {fp : Nat → List Addr} {H H1 : Hp} {m : Md} {d : D} {vs : List V} (h : VsOk G fp H H1 m [d] vs) : ∃ v, vs = [v] ∧ VOk G fp H H1 m d v := by
  cases m with
  | fr =>
    obtain ⟨f, ⟨v, r, f1, g, rfl, rfl, h1, h2, h3⟩, n, a⟩ := h
    subst h2 h3
    rw [List.append_nil] at n a
    exact ⟨v, rfl, f1, h1, n, a⟩
  | sh => exact one_of h
  | tr => exact one_of h
def rLstA (K : PySem.W.Frag) : List V → Hp → VK → Prop := fun xs H Q =>
  (∃ p ys, xs = [.ref p] ∧ (SqL K H p ys ∨ SqT K H p ys) ∧ ∀ l, H l = none → Q (.ref l) (upd H l (.lst ys))) ∨
  ∃ (a : Addr) (kvs : List (Key × V)), xs = [.ref a] ∧ Rd H a (.dK kvs) ∧ ∀ p, H p = none → Q (.ref p) (upd H p (.lst (kvs.map fun kv => kV kv.1)))
theorem call_lstA (hcalm : X.calm = true) : CallR X (.type "list") (rLstA X.K) := CallR.or call_list_of (call_listD hcalm)
theorem reps_keys {av : Addr → Prop} {H : Hp} : ∀ kvs : List (Key × V), Reps G av H ((kvs.map (·.1)).map keyD) (kvs.map fun kv => kV kv.1)
  | [] => rfl
  | (.inl i, v) :: r => ⟨_, _, rfl, rfl, reps_keys r⟩
  | (.inr i, v) :: r => ⟨_, _, rfl, rfl, reps_keys r⟩
theorem px_list {e : Expr} {g : EA} (h : PE X e (tCB (rLstA X.K) (tA G W g))) (hK : X.K = G.K := by rfl) : PE X e (tE G W (eCopy lstOf g)) := by
  refine PE.of h fun σ H Q ⟨fp, fv, ρ, I, q⟩ => ?_
  refine tA.of_bind (y := yE G W fp σ H Q) I q (fun e h => h) (fun h => h) fun ds m q vs H1 e1 v1 => ?_
  match ds, q, v1 with
  | [], q, _ => exact q.elim
  | _ :: _ :: _, q, _ => exact q.elim
  | [d], q, v1 =>
    obtain ⟨v, rfl, w1⟩ := VsOk.one v1
    have r : Rep G (avM fp m) H1 d v := (VOk.lo I w1).av
    cases z : lstOf d with
    | none =>
      simp only [z] at q
      exact q.elim
    | some c =>
      simp only [z] at q
      have q : ∀ v H', Same H H' → VOk G fp H H' (flM c m) c v → Q v H' := q
      cases d with
      | lst xs =>
        cases z
        obtain ⟨a, vs, rfl, n, s, rs⟩ := r
        refine .inl ?_
        rw [hK]
        exact ⟨a, vs, rfl, .inl (SqL.of s), fun p hp => q _ _ (e1.trans (same_new hp)) (VOk.newL I e1 rs hp)⟩
      | tup xs =>
        cases z
        obtain ⟨a, vs, rfl, s, rs⟩ := r
        refine .inl ?_
        rw [hK]
        exact ⟨a, vs, rfl, .inr s, fun p hp => q _ _ (e1.trans (same_new hp)) (VOk.newL I e1 rs hp)⟩
      | scr ns =>
        cases z
        obtain ⟨a, rfl, s⟩ := r
        refine .inl ?_
        rw [hK]
        exact ⟨a, _, rfl, .inl s.seq, fun p hp => q _ _ (e1.trans (same_new hp)) (VOk.newL I e1 (reps_ints ns) hp)⟩
      | dct ks es =>
        cases z
        obtain ⟨a, kvs, rfl, n, s, e, rs⟩ := r
        subst e
        exact .inr ⟨a, kvs, rfl, s, fun p hp => q _ _ (e1.trans (same_new hp)) (VOk.newL I e1 (reps_keys kvs) hp)⟩
      | _ => cases z
theorem px_tuple {e : Expr} {g : EA} (h : PE X e (tCB (fun xs H Q => ∃ p ys, xs = [.ref p] ∧ ((SqL X.K H p ys ∧ ∀ l, H l = none → Q (.ref l) (upd H l (.tup ys))) ∨ (SqT X.K H p ys ∧ Q (.ref p) H))) (tA G W g))) (hK : X.K = G.K := by rfl) : PE X e (tE G W (eCopy tupOf g)) := by
  refine PE.of h fun σ H Q ⟨fp, fv, ρ, I, q⟩ => ?_
  refine tA.of_bind (y := yE G W fp σ H Q) I q (fun e h => h) (fun h => h) fun ds m q vs H1 e1 v1 => ?_
  match ds, q, v1 with
  | [], q, _ => exact q.elim
  | _ :: _ :: _, q, _ => exact q.elim
  | [d], q, v1 =>
    obtain ⟨v, rfl, w1⟩ := VsOk.one v1
    have r : Rep G (avM fp m) H1 d v := (VOk.lo I w1).av
    cases z : tupOf d with
    | none =>
      simp only [z] at q
      exact q.elim
    | some c =>
      simp only [z] at q
      have q : ∀ v H', Same H H' → VOk G fp H H' (flM c m) c v → Q v H' := q
      cases d with
      | lst xs =>
        cases z
        obtain ⟨a, vs, rfl, n, s, rs⟩ := r
        rw [hK]
        exact ⟨a, vs, rfl, .inl ⟨SqL.of s, fun p hp => q _ _ (e1.trans (same_new hp)) (VOk.newT (vs := vs) e1 (same_new hp) ⟨p, _, rfl, SqT.of upd_same, rs.same (same_new hp)⟩)⟩⟩
      | tup xs =>
        cases z
        rw [hK]
        have r' := r
        obtain ⟨a, vs, rfl, s, rs⟩ := r'
        exact ⟨a, vs, rfl, .inr ⟨s, q _ _ e1 (VOk.newT (vs := vs) e1 (Same.refl _) r)⟩⟩
      | scr ns =>
        cases z
        obtain ⟨a, rfl, s⟩ := r
        rw [hK]
        exact ⟨a, _, rfl, .inl ⟨s.seq, fun p hp => q _ _ (e1.trans (same_new hp)) (VOk.newT (vs := []) e1 (same_new hp) ⟨p, _, rfl, SqT.of upd_same, (reps_ints ns)⟩)⟩⟩
      | _ => cases z
end
end Dn
set_option Elab.async false
set_option linter.all false
set_option maxRecDepth 100000
set_option maxHeartbeats 2000000
/-! Dn14: methods by values; calls of built-ins by values. -/
namespace Dn
open PySem L2

def D.isT (T : String) : D → Bool
  | .str _ => T == "str"
  | .lst _ => T == "list"
  | .scr _ => T == "list"
  | _ => false
/-- a method by values -/
def OpM (G : Cts) (r : V → List V → Hp → VK → Prop) (f : D → List D → Option D) : Prop :=
  ∀ d ds c, f d ds = some c → ∀ x vs H, Rep G Nav H d x → Reps G Nav H ds vs → ∀ Q : VK, (∀ v H', Same H H' → Fresh G H H' c v → Q v H') → r x vs H Q
def eMet (T : String) (op : D → List D → Option D) (f : E) (g : EA) : E := fun ρ => (f ρ).bind fun a => if a.1.isT T = true then ((g ρ).bind fun b => (R.opt (op a.1 b.1)).bind fun c => .ok (c, .fr)) else .bad
def eMet0 (T : String) (op : D → List D → Option D) (f : E) : E := fun ρ => (f ρ).bind fun a => if a.1.isT T = true then ((R.opt (op a.1 [])).bind fun c => .ok (c, .fr)) else .bad
section
variable {X : Cx} {G : Cts} {W : WX}
theorem isT_ty {T : String} {d : D} {v : V} {H : Hp} (h : d.isT T = true) (r : Rep G Nav H d v) : tyV G.K T v H := by
  cases d with
  | str x =>
    obtain rfl : v = .str x := r
    exact beq_iff_eq.mp h
  | lst xs =>
    obtain ⟨a, vs, rfl, _, s, _⟩ := r
    exact .inl ⟨beq_iff_eq.mp h, vs, SqL.of s⟩
  | scr xs =>
    obtain ⟨a, rfl, s⟩ := r
    exact .inl ⟨beq_iff_eq.mp h, _, s.seq⟩
  | _ => cases h
theorem px_met {e : Expr} {T : String} {r : V → List V → Hp → VK → Prop} {op : D → List D → Option D} {f : E} {g : EA} (h : PE X e (tBM X.K T r (tE G W f) (tA G W g))) (ho : OpM G r op) (hK : X.K = G.K := by rfl) : PE X e (tE G W (eMet T op f g)) := by
  refine PE.of h fun σ H Q ⟨fp, fv, ρ, I, q⟩ => ?_
  refine tE.of_bind (y := yE G W fp σ H Q) I q (fun e h => h) (fun h => h) fun d m q v H1 e1 v1 => ?_
  by_cases t : d.isT T = true
  · rw [if_pos t] at q
    have I1 := I.same e1
    rw [hK]
    refine ⟨isT_ty t v1.tr, ?_⟩
    refine tA.of_bind (y := yE G W fp σ H Q) I1 q (fun e h H' e' => h H' (e1.trans e')) (fun h => h) fun ds m2 q vs H2 e2 v2 => ?_
    cases z : op d ds with
    | none =>
      simp only [z] at q
      exact q.elim
    | some c =>
      simp only [z] at q
      exact ho d ds c z v vs H2 (v1.tr.same e2) v2.tr Q fun v H' e' f' => q v H' ((e1.trans e2).trans e') (f'.back (e1.trans e2))
  · rw [if_neg t] at q
    exact q.elim
theorem px_met0 {e : Expr} {T : String} {r : V → List V → Hp → VK → Prop} {op : D → List D → Option D} {f : E} (h : PE X e (tBM0 X.K T r (tE G W f))) (ho : OpM G r op) (hK : X.K = G.K := by rfl) : PE X e (tE G W (eMet0 T op f)) := by
  refine PE.of h fun σ H Q ⟨fp, fv, ρ, I, q⟩ => ?_
  refine tE.of_bind (y := yE G W fp σ H Q) I q (fun e h => h) (fun h => h) fun d m q v H1 e1 v1 => ?_
  by_cases t : d.isT T = true
  · rw [if_pos t] at q
    rw [hK]
    refine ⟨isT_ty t v1.tr, ?_⟩
    cases z : op d [] with
    | none =>
      simp only [z] at q
      exact q.elim
    | some c =>
      simp only [z] at q
      exact ho d [] c z v [] H1 v1.tr rfl Q fun v H' e' f' => q v H' (e1.trans e') (f'.back e1)
  · rw [if_neg t] at q
    exact q.elim
/-! ### methods of texts -/
/-- of a text -/
def mS0 (P : Str → Bool) (g : Str → D) : D → List D → Option D := fun d ds => match d with
  | .str a => (match ds with
    | [] => if P a = true then some (g a) else none
    | _ => none)
  | _ => none
def mS1 (P : Str → Str → Bool) (g : Str → Str → D) : D → List D → Option D := fun d ds => match d with
  | .str a => (match ds with
    | [.str b] => if P a b = true then some (g a b) else none
    | _ => none)
  | _ => none
def mSI (P : Str → Int → Bool) (g : Str → Int → D) : D → List D → Option D := fun d ds => match d with
  | .str a => (match ds with
    | [.int b] => if P a b = true then some (g a b) else none
    | _ => none)
  | _ => none
theorem mS0_some {P : Str → Bool} {g : Str → D} {d : D} {ds : List D} {c : D} (h : mS0 P g d ds = some c) : ∃ a, d = .str a ∧ ds = [] ∧ P a = true ∧ c = g a := by
  unfold mS0 at h
  split at h
  · split at h
    · split at h
      · rename_i p
        cases h
        exact ⟨_, rfl, rfl, p, rfl⟩
      · cases h
    · cases h
  · cases h
theorem mS1_some {P : Str → Str → Bool} {g : Str → Str → D} {d : D} {ds : List D} {c : D} (h : mS1 P g d ds = some c) : ∃ a b, d = .str a ∧ ds = [.str b] ∧ P a b = true ∧ c = g a b := by
  unfold mS1 at h
  split at h
  · split at h
    · split at h
      · rename_i p
        cases h
        exact ⟨_, _, rfl, rfl, p, rfl⟩
      · cases h
    · cases h
  · cases h
theorem mSI_some {P : Str → Int → Bool} {g : Str → Int → D} {d : D} {ds : List D} {c : D} (h : mSI P g d ds = some c) : ∃ a b, d = .str a ∧ ds = [.int b] ∧ P a b = true ∧ c = g a b := by
  unfold mSI at h
  split at h
  · split at h
    · split at h
      · rename_i p
        cases h
        exact ⟨_, _, rfl, rfl, p, rfl⟩
      · cases h
    · cases h
  · cases h
theorem strOne {av : Addr → Prop} {H : Hp} {s : Str} {vs : List V} (h : Reps G av H [.str s] vs) : vs = [.str s] := by
  obtain ⟨v, rfl, h1⟩ := one_of h
  obtain rfl : v = .str s := h1
  rfl
theorem intOne {av : Addr → Prop} {H : Hp} {s : Int} {vs : List V} (h : Reps G av H [.int s] vs) : vs = [.int s] := by
  obtain ⟨v, rfl, h1⟩ := one_of h
  obtain rfl : v = .int s := h1
  rfl
abbrev low (n : Nat) (a : Str) : Bool := decide (a.length ≤ n)
def oUpper := mS0 (low 5000000) fun a => .str (Txt.upper a)
theorem opm_upper : OpM G (fun x xs H Q => ∃ a, x = .str a ∧ xs = [] ∧ a.length ≤ 5592405 ∧ Q (.str (Txt.upper a)) H) oUpper := by
  intro d ds c h x vs H hx hs Q k
  obtain ⟨a, rfl, rfl, p, rfl⟩ := mS0_some h
  obtain rfl : x = .str a := hx
  have p := of_decide_eq_true p
  exact ⟨a, rfl, hs, by omega, k _ H (Same.refl H) Fresh.str⟩
def oZfill := mSI (fun _ i => decide (0 ≤ i ∧ i ≤ 1000)) fun a i => .str (Txt.zfill a i)
def oRjust := mSI (fun _ i => decide (0 ≤ i ∧ i ≤ 1000)) fun a i => .str (Txt.rjust a i)
theorem padOk {i : Int} (h : 0 ≤ i ∧ i ≤ 1000) : PadOk i = true := by
  unfold PadOk fitsSsize Builtin.Str.tooLong
  rw [Bool.and_eq_true, Bool.not_eq_true', Bool.not_eq_true', Bool.or_eq_false_iff, decide_eq_false_iff_not, decide_eq_false_iff_not, decide_eq_false_iff_not]
  have : i.toNat ≤ 1000 := by omega
  refine ⟨⟨by omega, by omega⟩, fun z => ?_⟩
  have z2 : sizeLine < 1000 ∨ sizeLine < i.toNat := .inr z
  have : 1000 ≤ sizeLine := by decide
  omega
theorem opm_zfill : OpM G (fun x xs H Q => ∃ (a : Str) (i : Int), x = .str a ∧ xs = [.int i] ∧ PadOk i = true ∧ Q (.str (Txt.zfill a i)) H) oZfill := by
  intro d ds c h x vs H hx hs Q k
  obtain ⟨a, i, rfl, rfl, p, rfl⟩ := mSI_some h
  obtain rfl : x = .str a := hx
  exact ⟨a, i, rfl, intOne hs, padOk (of_decide_eq_true p), k _ H (Same.refl H) Fresh.str⟩
theorem opm_rjust : OpM G (fun x xs H Q => ∃ (a : Str) (i : Int), x = .str a ∧ xs = [.int i] ∧ PadOk i = true ∧ Q (.str (Txt.rjust a i)) H) oRjust := by
  intro d ds c h x vs H hx hs Q k
  obtain ⟨a, i, rfl, rfl, p, rfl⟩ := mSI_some h
  obtain rfl : x = .str a := hx
  exact ⟨a, i, rfl, intOne hs, padOk (of_decide_eq_true p), k _ H (Same.refl H) Fresh.str⟩
def oStarts := mS1 (fun _ _ => true) fun a b => .bl (Txt.startswith a b)
def oEnds := mS1 (fun _ _ => true) fun a b => .bl (Txt.endswith a b)
theorem opm_starts : OpM G (fun x xs H Q => ∃ a b, x = .str a ∧ xs = [.str b] ∧ Q (.bl (Txt.startswith a b)) H) oStarts := by
  intro d ds c h x vs H hx hs Q k
  obtain ⟨a, i, rfl, rfl, p, rfl⟩ := mS1_some h
  obtain rfl : x = .str a := hx
  exact ⟨a, i, rfl, strOne hs, k _ H (Same.refl H) Fresh.bl⟩
theorem opm_ends : OpM G (fun x xs H Q => ∃ a b, x = .str a ∧ xs = [.str b] ∧ Q (.bl (Txt.endswith a b)) H) oEnds := by
  intro d ds c h x vs H hx hs Q k
  obtain ⟨a, i, rfl, rfl, p, rfl⟩ := mS1_some h
  obtain rfl : x = .str a := hx
  exact ⟨a, i, rfl, strOne hs, k _ H (Same.refl H) Fresh.bl⟩
def oStripC := mS1 (fun a _ => low 1000000 a) fun a b => .str (Txt.stripChars a b)
theorem opm_stripC : OpM G (fun x xs H Q => ∃ a b, x = .str a ∧ xs = [.str b] ∧ a.length ≤ sizeLine ∧ Q (.str (Txt.stripChars a b)) H) oStripC := by
  intro d ds c h x vs H hx hs Q k
  obtain ⟨a, i, rfl, rfl, p, rfl⟩ := mS1_some h
  obtain rfl : x = .str a := hx
  exact ⟨a, i, rfl, strOne hs, line_big (of_decide_eq_true p), k _ H (Same.refl H) Fresh.str⟩
theorem reps_strs {av : Addr → Prop} {H : Hp} : ∀ ns : List Str, Reps G av H (ns.map D.str) (ns.map V.str)
  | [] => rfl
  | n :: ns => ⟨_, _, rfl, rfl, reps_strs ns⟩
theorem imms_strs : ∀ ns : List Str, D.imms (ns.map D.str) = true
  | [] => rfl
  | n :: ns => imms_strs ns
def oSplit := mS1 (fun a b => decide (a.length ≤ 1000000 - 2) && (b.length != 0)) fun a b => .lst ((Txt.split a b).map .str)
theorem opm_split : OpM G (fun x xs H Q => ∃ a b, x = .str a ∧ xs = [.str b] ∧ (b.length == 0) = false ∧ a.length + 2 ≤ sizeLine ∧ rNewStrs (Txt.split a b) H Q) oSplit := by
  intro d ds c h x vs H hx hs Q k
  obtain ⟨a, i, rfl, rfl, p, rfl⟩ := mS1_some h
  obtain rfl : x = .str a := hx
  rw [Bool.and_eq_true] at p
  refine ⟨a, i, rfl, strOne hs, ?_, Nat.le_trans (Nat.add_le_of_le_sub (by decide) (of_decide_eq_true p.1)) (line_big (Nat.le_refl _)), fun q hq => k _ _ (same_new hq) (Fresh.lst (imms_strs _) (reps_strs _) hq)⟩
  have := p.2
  rw [bne_iff_ne] at this
  exact beq_eq_false_iff_ne.mpr this
def oPart := mS1 (fun a b => low 1000000 a && (b.length != 0)) fun a b => .tup [.str (Txt.partition a b).1, .str (Txt.partition a b).2.1, .str (Txt.partition a b).2.2]
theorem opm_part : OpM G (fun x xs H Q => ∃ a b, x = .str a ∧ xs = [.str b] ∧ (b.length == 0) = false ∧ a.length ≤ sizeLine ∧
      ∀ p, H p = none → Q (.ref p) (upd H p (.tup [.str (Txt.partition a b).1, .str (Txt.partition a b).2.1, .str (Txt.partition a b).2.2]))) oPart := by
  intro d ds c h x vs H hx hs Q k
  obtain ⟨a, i, rfl, rfl, p, rfl⟩ := mS1_some h
  obtain rfl : x = .str a := hx
  rw [Bool.and_eq_true] at p
  refine ⟨a, i, rfl, strOne hs, ?_, line_big (of_decide_eq_true p.1), fun q hq => k _ _ (same_new hq) (Fresh.tup rfl (reps_strs [_, _, _]) hq)⟩
  have := p.2
  rw [bne_iff_ne] at this
  exact beq_eq_false_iff_ne.mpr this
/-- the texts that data is -/
def strsOf : List D → Option (List Str)
  | [] => some []
  | .str s :: r => (strsOf r).map (s :: ·)
  | _ => none
theorem strsOf_some : ∀ {xs : List D} {ss : List Str}, strsOf xs = some ss → xs = ss.map .str
  | [], ss, h => by
    cases h
    rfl
  | .str s :: r, ss, h => by
    unfold strsOf at h
    cases z : strsOf r with
    | none =>
      rw [z] at h
      cases h
    | some t =>
      rw [z] at h
      cases h
      rw [strsOf_some z]
      rfl
  | .non :: _, _, h => by cases h
  | .bl _ :: _, _, h => by cases h
  | .int _ :: _, _, h => by cases h
  | .tup _ :: _, _, h => by cases h
  | .lst _ :: _, _, h => by cases h
  | .dct _ _ :: _, _, h => by cases h
  | .obj _ _ _ :: _, _, h => by cases h
  | .scr _ :: _, _, h => by cases h
  | .ty _ :: _, _, h => by cases h
  | .cls _ :: _, _, h => by cases h
theorem reps_strs_of {av : Addr → Prop} {H : Hp} : ∀ {ns : List Str} {vs : List V}, Reps G av H (ns.map D.str) vs → vs = ns.map V.str
  | [], vs, h => h
  | n :: ns, vs, ⟨v, r, e, h1, h2⟩ => by
    obtain rfl : v = .str n := h1
    subst e
    rw [reps_strs_of h2]
    rfl
def oJoin : D → List D → Option D := fun d ds => match d with
  | .str a => (match ds with
    | [e] => ((D.seqD e).bind strsOf).bind fun ss => if (ss.map (·.length)).sum + ss.length * a.length ≤ 1000000 then some (.str (Txt.join a ss)) else none
    | _ => none)
  | _ => none
theorem opm_join : OpM G (fun x xs H Q => ∃ a p, ∃ ys : List Str, x = .str a ∧ xs = [.ref p] ∧ (SqL G.K H p (ys.map V.str) ∨ SqT G.K H p (ys.map V.str)) ∧
      (ys.map (·.length)).sum + ys.length * a.length ≤ 16777216 ∧ Q (.str (Txt.join a ys)) H) oJoin := by
  intro d ds c h x vs H hx hs Q k
  unfold oJoin at h
  split at h
  · rename_i a
    obtain rfl : x = .str a := hx
    split at h
    · rename_i e
      obtain ⟨v, rfl, r⟩ := one_of hs
      cases z : D.seqD e with
      | none =>
        simp only [z] at h
        cases h
      | some ts =>
        simp only [z] at h
        cases z2 : strsOf ts with
        | none =>
          simp only [Option.bind_some, z2] at h
          cases h
        | some ss =>
          simp only [Option.bind_some, z2] at h
          split at h
          · rename_i hl
            cases h
            have e1 := strsOf_some z2
            subst e1
            cases e with
            | lst xs =>
              cases z
              obtain ⟨p, vs, rfl, _, s, rs⟩ := r
              have := reps_strs_of rs
              subst this
              exact ⟨a, p, ss, rfl, rfl, .inl (SqL.of s), by omega, k _ H (Same.refl H) Fresh.str⟩
            | tup xs =>
              cases z
              obtain ⟨p, vs, rfl, s, rs⟩ := r
              have := reps_strs_of rs
              subst this
              exact ⟨a, p, ss, rfl, rfl, .inr s, by omega, k _ H (Same.refl H) Fresh.str⟩
            | _ => cases z
          · cases h
    · cases h
  · cases h
end
end Dn
set_option Elab.async false
set_option linter.all false
set_option maxRecDepth 100000
set_option maxHeartbeats 2000000
/-! Dn15: what a slot owns is changed in place: lists and dicts. -/
namespace Dn
open PySem L2

/-- data that a slot owns -/
def Sl.mine : Option Sl → Option D
  | some (.own d) => some d
  | some (.io d) => some d
  | _ => none
def Sl.re (s : Option Sl) (d : D) : Sl := match s with
  | some (.io _) => .io d
  | _ => .own d
section
variable {X : Cx} {G : Cts} {W : WX} {H0 H H' H1 : Hp} {io : Addr → Prop} {fp fp' : Nat → List Addr} {fv : Nat → Option V} {σ σ' : L2.St} {ρ ρ' : Rho}
theorem LSR.mine (I : LSR G fp fv σ H ρ) {i : Nat} {d : D} (q : Sl.mine ρ[i]? = some d) : ∃ v, σ[i]? = some (some v) ∧ OT G H d v (fp i) := by
  cases e : ρ[i]? with
  | none =>
    rw [e] at q
    cases q
  | some s =>
    rw [e] at q
    have r := I.sl i s e
    cases s with
    | own d =>
      cases q
      exact r
    | io d =>
      cases q
      obtain ⟨v, a, _, b⟩ := r
      exact ⟨v, a, b⟩
    | _ => cases q
theorem tk_upd {a : Addr} {o o' : HO} (h : H a = some o) (m : Mut (some o)) : Tk G H (upd H a o') := by
  have ne : ∀ b u, H b = some u → ¬ Mut (some u) → b ≠ a := fun b u e n z => by
    subst z
    rw [h] at e
    cases e
    exact n m
  refine ⟨fun b xs s => ?_, fun b xs s => ?_⟩
  · rcases s with (s | ⟨o1, s⟩) | s
    · exact .inl (.inl (by rw [upd_ne (ne b _ s fun z => z)]; exact s))
    · exact .inl (.inr ⟨o1, by rw [upd_ne (ne b _ s fun z => z)]; exact s⟩)
    · exact .inr s
  · rcases s with ⟨o1, s⟩ | s
    · exact .inl ⟨o1, by rw [upd_ne (ne b _ s fun z => z)]; exact s⟩
    · exact .inr s
/-- the thing on top is another one -/
theorem FSR.top (I : FSR G H0 io fp fv σ H ρ) (e1 : Same H H1) {i : Nat} {d d' : D} {a : Addr} {f f' : List Addr} {o o' : HO} (q : Sl.mine ρ[i]? = some d) (hv : σ[i]? = some (some (.ref a))) (hf : fp i = a :: f) (ho : H a = some o) (m : Mut (some o)) (n : (a :: f').Nodup)
    (new : ∀ b ∈ f', b ∈ f ∨ H b = none) (ot : OT G (upd H1 a o') d' (.ref a) (a :: f')) : ∃ fp', FSR G H0 io fp' fv σ (upd H1 a o') (ρ.set i (Sl.re ρ[i]? d')) := by
  have J := I.same e1
  have hi : i < ρ.length := by
    cases e : ρ[i]? with
    | none =>
      rw [e] at q
      cases q
    | some s => exact (List.getElem?_eq_some_iff.mp e).1
  have e1a : H1 a = some o := e1 a o ho
  -- what is new stands nowhere else in H1's tracked slots: take the state at H
  refine ⟨upF fp i (a :: f'), ?_⟩
  have L : LSR G (upF fp i (a :: f')) fv σ (upd H1 a o') (ρ.set i (Sl.re ρ[i]? d')) := by
    have k : ∀ b u, b ∉ fp i → H b = some u → upd H1 a o' b = some u := fun b u nb hb => by
      rw [upd_ne (fun z => nb (by rw [z, hf]; exact List.mem_cons_self))]
      exact e1 b u hb
    refine I.l.mut hi k ((tk_same e1).trans (tk_upd e1a m)) n (fun b hb => ?_) (fun b hb => ?_) ?_
    · rw [hf]
      rcases List.mem_cons.mp hb with rfl | hb
      · exact .inl List.mem_cons_self
      · exact (new b hb).elim (fun z => .inl (List.mem_cons_of_mem _ z)) .inr
    · obtain ⟨u, hu, _⟩ := OT.there d' _ _ ot b hb
      exact ⟨u, hu⟩
    · cases e : ρ[i]? with
      | none =>
        rw [e] at q
        cases q
      | some s =>
        have r := I.l.sl i s e
        cases s with
        | own d =>
          exact ⟨_, hv, ot⟩
        | io d =>
          obtain ⟨v, h1, h2, _⟩ := r
          rw [hv] at h1
          cases h1
          exact ⟨_, hv, h2, ot⟩
        | exc _ =>
          rw [e] at q
          cases q
        | nil =>
          rw [e] at q
          cases q
        | shr d =>
          rw [e] at q
          cases q
  refine ⟨L, fun b u nb hb => ?_, ?_, fun j b hj => ?_⟩
  · rw [upd_ne (fun z => ?_)]
    · exact J.keep b u nb hb
    · subst z
      rcases I.src i b (by rw [hf]; exact List.mem_cons_self) with w | w
      · exact nb w
      · rw [hb] at w
        cases w
  · exact J.tk.trans (tk_upd e1a m)
  · by_cases z : j = i
    · subst z
      rw [upF_same] at hj
      rcases List.mem_cons.mp hj with rfl | hb
      · exact I.src j b (by rw [hf]; exact List.mem_cons_self)
      · rcases new b hb with w | w
        · exact I.src j b (by rw [hf]; exact List.mem_cons_of_mem _ w)
        · exact I.fresh w
    · rw [upF_ne z] at hj
      exact I.src j b hj
theorem OTs.append : ∀ {xs ys : List D} {vs ws : List V} {f g : List Addr}, OTs G H xs vs f → OTs G H ys ws g → OTs G H (xs ++ ys) (vs ++ ws) (f ++ g)
  | [], ys, vs, ws, f, g, h, k => by
    obtain ⟨rfl, rfl⟩ := h
    exact k
  | x :: xs, ys, vs, ws, f, g, h, k => by
    obtain ⟨v, r, f1, f2, rfl, rfl, h1, h2⟩ := h
    exact ⟨v, r ++ ws, f1, f2 ++ g, rfl, by rw [List.append_assoc], h1, OTs.append h2 k⟩
/-- a list that a slot owns -/
theorem FSR.lst (I : FSR G H0 io fp fv σ H ρ) {i : Nat} {xs : List D} (q : Sl.mine ρ[i]? = some (.lst xs)) : ∃ a vs f, σ[i]? = some (some (.ref a)) ∧ H a = some (.lst vs) ∧ a ∉ f ∧ f.Nodup ∧ (∀ b ∈ f, ∃ o, H b = some o) ∧ OTs G H xs vs f ∧
    ∀ H1 xs' vs' f', Same H H1 → OTs G H1 xs' vs' f' → f'.Nodup → a ∉ f' → (∀ b ∈ f', b ∈ f ∨ H b = none) → ∃ fp', FSR G H0 io fp' fv σ (upd H1 a (.lst vs')) (ρ.set i (Sl.re ρ[i]? (.lst xs'))) := by
  obtain ⟨v, hv, a, vs, f, rfl, hf, ha, ot⟩ := I.l.mine q
  have nd := I.l.nd i
  rw [hf] at nd
  have nd' := List.nodup_cons.mp nd
  refine ⟨a, vs, f, hv, ha, nd'.1, nd'.2, fun b hb => I.l.al i b (by rw [hf]; exact List.mem_cons_of_mem _ hb), ot, fun H1 xs' vs' f' e1 ot' n' na new => ?_⟩
  have hset : H1 a = some (.lst vs) := e1 a _ ha
  refine I.top e1 q hv hf ha trivial (List.nodup_cons.mpr ⟨na, n'⟩) new ⟨a, vs', f', rfl, rfl, upd_same, ?_⟩
  exact OTs.ext (tk_upd hset trivial) xs' vs' f' (fun b hb => upd_ne fun z => na (z ▸ hb)) ot'
theorem FSR.lstF (I : FSR G H0 io fp fv σ H ρ) {i : Nat} {xs : List D} (q : Sl.mine ρ[i]? = some (.lst xs)) : ∃ a vs, σ[i]? = some (some (.ref a)) ∧ H a = some (.lst vs) ∧ Reps G Nav H xs vs ∧
    ∀ H1 xs' vs', Same H H1 → D.imms xs' = true → Reps G Nav H1 xs' vs' → ∃ fp', FSR G H0 io fp' fv σ (upd H1 a (.lst vs')) (ρ.set i (Sl.re ρ[i]? (.lst xs'))) := by
  obtain ⟨a, vs, f, h1, h2, h3, h4, h5, h6, k⟩ := I.lst q
  exact ⟨a, vs, h1, h2, OTs.rep xs vs f (fun _ _ z => z) h6, fun H1 xs' vs' e1 im r => k H1 xs' vs' [] e1 (Reps.own xs' vs' im r) List.nodup_nil (fun z => by cases z) (fun b z => by cases z)⟩
/-- a dict that a slot owns -/
theorem FSR.dct (I : FSR G H0 io fp fv σ H ρ) {i : Nat} {ks : List Key} {ds : List D} (q : Sl.mine ρ[i]? = some (.dct ks ds)) : ∃ a kvs f, σ[i]? = some (some (.ref a)) ∧ H a = some (.dK kvs) ∧ kvs.map (·.1) = ks ∧ a ∉ f ∧ f.Nodup ∧ (∀ b ∈ f, ∃ o, H b = some o) ∧ OTs G H ds (kvs.map (·.2)) f ∧
    ∀ H1 ds' (kvs' : List (Key × V)) f', Same H H1 → OTs G H1 ds' (kvs'.map (·.2)) f' → f'.Nodup → a ∉ f' → (∀ b ∈ f', b ∈ f ∨ H b = none) → ∃ fp', FSR G H0 io fp' fv σ (upd H1 a (.dK kvs')) (ρ.set i (Sl.re ρ[i]? (.dct (kvs'.map (·.1)) ds'))) := by
  obtain ⟨v, hv, a, kvs, f, rfl, hf, ha, hk, ot⟩ := I.l.mine q
  have nd := I.l.nd i
  rw [hf] at nd
  have nd' := List.nodup_cons.mp nd
  refine ⟨a, kvs, f, hv, ha, hk, nd'.1, nd'.2, fun b hb => I.l.al i b (by rw [hf]; exact List.mem_cons_of_mem _ hb), ot, fun H1 ds' kvs' f' e1 ot' n' na new => ?_⟩
  have hset : H1 a = some (.dK kvs) := e1 a _ ha
  refine I.top e1 q hv hf ha trivial (List.nodup_cons.mpr ⟨na, n'⟩) new ⟨a, kvs', f', rfl, rfl, upd_same, rfl, ?_⟩
  exact OTs.ext (tk_upd hset trivial) ds' _ f' (fun b hb => upd_ne fun z => na (z ▸ hb)) ot'

/-! ### xs.append(e) -/
def sApp (i : Nat) (f : E) : S := fun ρ => match Sl.mine ρ[i]? with
  | some (.lst xs) => onE (f ρ) ρ fun d m => match md d m with
    | .fr => if xs.length < 1000000 then .nx (ρ.set i (Sl.re ρ[i]? (.lst (xs ++ [d])))) else .bad
    | _ => .bad
  | _ => .bad
theorem px_app {i : Nat} {f : E} {st : Stmt} (h : PS X st (tDrop (tBM X.K "list" rAppend (tVar i) (tA G W (eCons f eNil))))) : PS X st (tS G W (sApp i f)) := by
  refine PS.of h fun D' σ H ⟨H0, io, fp, fv, ρ, I, q⟩ => ?_
  unfold sApp at q
  cases z : Sl.mine ρ[i]? with
  | none =>
    rw [z] at q
    exact q.elim
  | some dd =>
    rw [z] at q
    cases dd with
    | lst xs =>
      obtain ⟨a, vs, fa, hv, ha, na, nd, al, ot, k⟩ := I.lst z
      refine ⟨_, hv, .inl ⟨rfl, vs, SqL.of ha⟩, ?_⟩
      show tA G W (eCons f eNil) σ H _
      have q : SK G W H0 io fv D' (onE (f ρ) ρ _) := q
      refine ⟨fp, fv, ρ, I.l, ?_⟩
      unfold eCons eNil
      cases w : f ρ with
      | ex e =>
        rw [w] at q
        exact fun H' e' => q σ H' fp (I.same e')
      | bad =>
        rw [w] at q
        exact q.elim
      | ok r =>
        obtain ⟨d, m⟩ := r
        rw [w] at q
        simp only [onE] at q
        cases w2 : md d m with
        | sh =>
          rw [w2] at q
          exact q.elim
        | tr =>
          rw [w2] at q
          exact q.elim
        | fr =>
          rw [w2] at q
          show ∀ v H', Same H H' → VsOk G fp H H' (Md.jn (md d m) .fr) [d] v → _
          rw [w2]
          rintro ws H1 e1 ⟨g, ⟨u, r, f1, f2, rfl, rfl, h1, h2, h3⟩, n2, a2⟩
          subst h2 h3
          rw [List.append_nil] at n2 a2
          by_cases hl : xs.length < 1000000
          · rw [if_pos hl] at q
            refine ⟨a, vs, u, rfl, rfl, e1 a _ ha, ?_, ?_⟩
            · rw [← (OTs.rep (av := Nav) xs vs fa (fun _ _ z => z) ot).length]
              exact line_lt hl
            · have nf : ∀ b ∈ fa, b ∉ f1 := fun b hb hb' => by
                obtain ⟨o, ho⟩ := al b hb
                rw [a2 b hb'] at ho
                cases ho
              have two : OTs G H1 (xs ++ [d]) (vs ++ [u]) (fa ++ f1) := OTs.append (OTs.same e1 ot) (show OTs G H1 [d] [u] f1 from ⟨u, [], f1, [], rfl, (List.append_nil _).symm, h1, rfl, rfl⟩)
              obtain ⟨fp', J⟩ := k H1 _ _ _ e1 two (List.nodup_append.mpr ⟨nd, n2, fun x hx y hy z => nf x hx (z ▸ hy)⟩) (fun z => by
                  rcases List.mem_append.mp z with z | z
                  · exact na z
                  · have := a2 a z
                    rw [ha] at this
                    cases this) (fun b hb => by
                  rcases List.mem_append.mp hb with z | z
                  · exact .inl z
                  · exact .inr (a2 b z))
              exact q σ _ fp' J
          · rw [if_neg hl] at q
            exact q.elim
    | _ => exact q.elim
end
end Dn
set_option Elab.async false
set_option linter.all false
set_option maxRecDepth 100000
set_option maxHeartbeats 2000000
/-! Dn16: comprehensions. Within, all slots are read only. -/
namespace Dn
open PySem L2

def frzA (ρ : Rho) : Rho := ρ.map fun s => match s with
  | .own d => .shr d
  | .io d => .shr d
  | .exc _ => .nil
  | s => s
def wipeR (ρ : Rho) : List Nat → Rho
  | [] => ρ
  | v :: vs => (wipeR ρ vs).set v .nil
def R.nox {α : Type} : R α → R α
  | .ok a => .ok a
  | _ => .bad
def ntr : Md → Bool
  | .tr => false
  | _ => true
def lcL (st : Tg) (t : T) (f : E) (ρ : Rho) : List D → R (List D × Md)
  | [] => .ok ([], .fr)
  | d :: ds => match st d ρ with
    | none => .bad
    | some ρ1 => (t ρ1).nox.bind fun b => if b = true then ((f ρ1).nox.bind fun x => if ntr (md x.1 x.2) = true then ((lcL st t f ρ ds).bind fun y => .ok (x.1 :: y.1, Md.jn (md x.1 x.2) y.2)) else .bad) else lcL st t f ρ ds
def lcM : Md → Md
  | .fr => .fr
  | _ => .tr
def eLc (it : EI) (st : Tg) (t : T) (f : E) (vs : List Nat) : E := fun ρ => (it (frzA ρ)).bind fun ds => (lcL st t f (wipeR (frzA ρ) vs) ds).bind fun y => if y.1.length ≤ 1000000 then .ok (.lst y.1, lcM y.2) else .bad
def tYes' : T := fun _ => .ok true

/-- a state that is only read -/
structure LRO (G : Cts) (av : Addr → Prop) (σ : L2.St) (H : Hp) (ρ : Rho) : Prop where
  len : σ.length = ρ.length
  sl : ∀ (i : Nat) (s : Sl), ρ[i]? = some s → s = .nil ∨ ∃ d v, s = .shr d ∧ σ[i]? = some (some v) ∧ Rep G av H d v
abbrev gD (n : Nat) (D : Addr) : Nat → List Addr := fun j => if j = n then [D] else []
theorem own_gD {n : Nat} {D a : Addr} : Own (gD n D) a ↔ a = D := by
  refine ⟨fun ⟨i, h⟩ => ?_, fun h => ⟨n, ?_⟩⟩
  · by_cases z : i = n
    · have h' : a ∈ (if i = n then [D] else []) := h
      rw [if_pos z] at h'
      exact List.mem_singleton.mp h'
    · have h' : a ∈ (if i = n then [D] else []) := h
      rw [if_neg z] at h'
      cases h'
  · subst h
    show a ∈ (if n = n then [a] else [])
    rw [if_pos rfl]
    exact List.mem_singleton.mpr rfl
abbrev W0 : WX := fun _ _ _ _ => False
section
variable {X : Cx} {G : Cts} {W : WX} {H H' : Hp} {av av' : Addr → Prop} {σ σ' : L2.St} {ρ ρ' : Rho}
theorem LRO.same (e : Same H H') (h : LRO G av σ H ρ) : LRO G av σ H' ρ := ⟨h.len, fun i s q => (h.sl i s q).imp id fun ⟨d, v, a, b, c⟩ => ⟨d, v, a, b, c.same e⟩⟩
theorem LRO.weak (k : ∀ a, (∃ o, H a = some o) → av' a → av a) (h : LRO G av σ H ρ) : LRO G av' σ H ρ := ⟨h.len, fun i s q => (h.sl i s q).imp id fun ⟨d, v, a, b, c⟩ => ⟨d, v, a, b, Rep.weak k d v c⟩⟩
theorem LRO.lsr {D : Addr} {o : HO} (hD : H D = some o) {fv : Nat → Option V} (h : LRO G (· = D) σ H ρ) : LSR G (gD ρ.length D) fv σ H ρ := by
  have mem : ∀ {i : Nat} {a : Addr}, a ∈ gD ρ.length D i → i = ρ.length ∧ a = D := fun {i a} h => by
    have h' : a ∈ (if i = ρ.length then [D] else []) := h
    by_cases z : i = ρ.length
    · rw [if_pos z] at h'
      exact ⟨z, List.mem_singleton.mp h'⟩
    · rw [if_neg z] at h'
      cases h'
  refine ⟨h.len, fun i => ?_, fun i j n a hi hj => ?_, fun i a hi => ?_, fun i s q => ?_⟩
  · show (if i = ρ.length then [D] else []).Nodup
    split
    · exact List.nodup_cons.mpr ⟨by simp, List.nodup_nil⟩
    · exact List.nodup_nil
  · exact n ((mem hi).1.trans (mem hj).1.symm)
  · rw [(mem hi).2]
    exact ⟨o, hD⟩
  · rcases h.sl i s q with rfl | ⟨d, v, rfl, e, r⟩
    · exact trivial
    · exact ⟨v, e, Rep.weak (fun a _ z => own_gD.mp z) d v r⟩
theorem LSR.ro {fp : Nat → List Addr} {fv : Nat → Option V} (h : LSR G fp fv σ H ρ) : LRO G Nav σ H (frzA ρ) := by
  refine ⟨by rw [h.len, frzA, List.length_map], fun i s q => ?_⟩
  unfold frzA at q
  rw [List.getElem?_map] at q
  cases e : ρ[i]? with
  | none =>
    rw [e] at q
    cases q
  | some t =>
    rw [e] at q
    have r := h.sl i t e
    cases t with
    | nil =>
      cases q
      exact .inl rfl
    | exc _ =>
      cases q
      exact .inl rfl
    | shr d =>
      cases q
      obtain ⟨v, h1, h2⟩ := r
      exact .inr ⟨d, v, rfl, h1, h2.tr⟩
    | own d =>
      cases q
      obtain ⟨v, h1, h2⟩ := r
      exact .inr ⟨d, v, rfl, h1, OT.rep d v _ (fun _ _ z => z) h2⟩
    | io d =>
      cases q
      obtain ⟨v, h1, _, h2⟩ := r
      exact .inr ⟨d, v, rfl, h1, OT.rep d v _ (fun _ _ z => z) h2⟩
theorem LRO.lsr0 {fv : Nat → Option V} (h : LRO G Nav σ H ρ) : LSR G (fun _ => []) fv σ H ρ := by
  refine ⟨h.len, fun _ => List.nodup_nil, fun _ _ _ a (z : a ∈ []) => absurd z List.not_mem_nil, fun _ a (z : a ∈ []) => absurd z List.not_mem_nil, fun i s q => ?_⟩
  rcases h.sl i s q with rfl | ⟨d, v, rfl, e, r⟩
  · exact trivial
  · exact ⟨v, e, Rep.weak (fun a _ ⟨_, z⟩ => by cases z) d v r⟩
theorem wipeR_len (ρ : Rho) : ∀ vs, (wipeR ρ vs).length = ρ.length
  | [] => rfl
  | v :: vs => by unfold wipeR; rw [List.length_set, wipeR_len ρ vs]
theorem LRO.wipe (h : LRO G av σ H ρ) : ∀ vs : List Nat, LRO G av (L2.wipe σ vs) H (wipeR ρ vs)
  | [] => h
  | v :: vs => by
    have I := LRO.wipe h vs
    refine ⟨by rw [L2.wipe_length, wipeR_len]; exact h.len, fun i s q => ?_⟩
    unfold wipeR at q
    unfold L2.wipe
    by_cases z : v = i
    · subst z
      by_cases lt : v < (wipeR ρ vs).length
      · rw [List.getElem?_set_self lt] at q
        cases q
        exact .inl rfl
      · rw [List.getElem?_eq_none (by rw [List.length_set]; omega)] at q
        cases q
    · rw [List.getElem?_set_ne z] at q
      rw [List.getElem?_set_ne z]
      exact I.sl i s q
theorem wipe_set {i : Nat} {x : Option V} : ∀ {vs : List Nat}, i ∈ vs → ∀ σ : L2.St, L2.wipe (σ.set i x) vs = L2.wipe σ vs
  | v :: vs, h, σ => by
    unfold L2.wipe
    by_cases z : i ∈ vs
    · rw [wipe_set z]
    · have e : i = v := (List.mem_cons.mp h).resolve_right z
      subst e
      have out : ∀ ws : List Nat, i ∉ ws → L2.wipe (σ.set i x) ws = (L2.wipe σ ws).set i x := fun ws => by
        induction ws with
        | nil => exact fun _ => rfl
        | cons w ws ih =>
          intro n
          unfold L2.wipe
          rw [ih fun z => n (List.mem_cons_of_mem _ z), List.set_comm]
          exact fun z => n (by rw [z]; exact List.mem_cons_self)
      rw [out vs z, List.set_set]
/-- a target within -/
def gRO (G : Cts) (st : Tg) (vs : List Nat) : TG := fun v σ H Q => ∃ av ρ d, LRO G av σ H ρ ∧ Rep G av H d v ∧ ∃ ρ', st d ρ = some ρ' ∧ ρ'.length = ρ.length ∧ ∀ σ', L2.wipe σ' vs = L2.wipe σ vs → LRO G av σ' H ρ' → Q σ' H
theorem LRO.store (h : LRO G av σ H ρ) {i : Nat} {d : D} {v : V} (r : Rep G av H d v) (e : stSl i d .sh ρ = some ρ') : LRO G av (σ.set i (some v)) H ρ' ∧ ρ'.length = ρ.length := by
  unfold stSl at e
  cases q : ρ[i]? with
  | none =>
    rw [q] at e
    cases e
  | some s =>
    rw [q] at e
    have hi : i < ρ.length := (List.getElem?_eq_some_iff.mp q).1
    have e : ρ.set i (.shr d) = ρ' := by
      cases s with
      | io _ => cases e
      | _ =>
        cases e
        rfl
    subst e
    refine ⟨⟨by rw [List.length_set, List.length_set, h.len], fun j s hj => ?_⟩, List.length_set⟩
    by_cases z : i = j
    · subst z
      rw [List.getElem?_set_self hi] at hj
      rw [List.getElem?_set_self (by rw [h.len]; exact hi)]
      cases hj
      exact .inr ⟨d, v, rfl, rfl, r⟩
    · rw [List.getElem?_set_ne z] at hj
      rw [List.getElem?_set_ne z]
      exact h.sl j s hj
theorem pgo_of {tg : Expr} {i : Nat} {vs : List Nat} (h : PG X tg (gName i)) (m : i ∈ vs := by decide) : PG X tg (gRO G (tgN i) vs) := ⟨fun pins s σ H v u Q I r hw => h.run pins s σ H v u Q I r (by
  obtain ⟨av, ρ, d, J, rp, ρ', e, _, k⟩ := hw
  exact k _ (wipe_set m σ) (J.store rp e).1)⟩
def gROs (G : Cts) (st : Tgs) (ws : List Nat) : TGs := fun vs σ H Q => ∃ av ρ ds, LRO G av σ H ρ ∧ Reps G av H ds vs ∧ ∃ ρ', st ds ρ = some ρ' ∧ ρ'.length = ρ.length ∧ ∀ σ', L2.wipe σ' ws = L2.wipe σ ws → LRO G av σ' H ρ' → Q σ' H
theorem pgos_nil {ws : List Nat} : PGs X [] (gROs G tgsNil ws) := ⟨fun pins s σ H vs us Q I r hw => pgs_nil.run pins s σ H vs us Q I r (by
  obtain ⟨av, ρ, ds, J, rp, ρ', e, _, k⟩ := hw
  cases ds with
  | nil =>
    cases e
    exact ⟨rp, k _ rfl J⟩
  | cons d r => cases e)⟩
theorem pgos_cons {e : Expr} {es : List Expr} {i : Nat} {t : Tgs} {ws : List Nat} (h1 : PG X e (gName i)) (h2 : PGs X es (gROs G t ws)) (m : i ∈ ws := by decide) (hs : (assignEach (e :: es) X.env).map (·.2) = assign e X.env :: (assignEach es X.env).map (·.2) := by rfl) : PGs X (e :: es) (gROs G (tgsCons i t) ws) :=
  ⟨fun pins s σ H vs us Q I r hw => (pgs_cons h1 h2 hs).run pins s σ H vs us Q I r (by
  obtain ⟨av, ρ, ds, J, rp, ρ', e, hl, k⟩ := hw
  cases ds with
  | nil => cases e
  | cons d r =>
    obtain ⟨v, vr, ev, r1, r2⟩ := rp
    cases z : stSl i d .sh ρ with
    | none =>
      simp only [tgsCons, z] at e
      cases e
    | some ρ1 =>
      simp only [tgsCons, z] at e
      obtain ⟨J', hl'⟩ := J.store r1 z
      exact ⟨v, vr, ev, av, ρ1, r, J', r2, ρ', e, hl.trans hl'.symm, fun σ' hw' => k σ' (hw'.trans (wipe_set m σ))⟩)⟩
theorem pgo_tup {es : List Expr} {k : Nat} {pos : Pos} {n : Nat} {t : Tgs} {ws : List Nat} (hc : X.calm = true) (h : PGs X es (gROs G t ws)) (hK : X.K = G.K := by rfl) (hn : (assignEach es X.env).length = n := by rfl) (hst : (assignEach es X.env).findIdx? (·.1) = none := by rfl) :
    PG X (.Tuple es k pos) (gRO G (tgT n t) ws) := ⟨fun pins s σ H v u Q I r hw => (pg_tup hc h hn hst).run pins s σ H v u Q I r (by
  obtain ⟨av, ρ, d, J, rp, ρ', e, hl, k⟩ := hw
  cases d with
  | tup ds =>
    obtain ⟨a, vs, ev, s, rs⟩ := rp
    by_cases hl' : ds.length = n
    · simp only [tgT, hl', if_true] at e
      rw [hK]
      exact ⟨a, vs, ev, s, rs.length.symm.trans hl', av, ρ, ds, J, rs, ρ', e, hl, k⟩
    · simp only [tgT, hl', if_false] at e
      cases e
  | _ => cases e)⟩
theorem tgN_len {i : Nat} {d : D} {ρ ρ' : Rho} (e : tgN i d ρ = some ρ') : ρ'.length = ρ.length := by
  unfold tgN stSl at e
  split at e
  · cases e
  · cases e
  · cases e
    exact List.length_set
theorem tgs_len : ∀ {t : Tgs}, (∀ ds ρ ρ', t ds ρ = some ρ' → ρ'.length = ρ.length) → ∀ i ds ρ ρ', tgsCons i t ds ρ = some ρ' → ρ'.length = ρ.length := fun {t} h i ds ρ ρ' e => by
  unfold tgsCons at e
  split at e
  · rename_i d r
    cases z : stSl i d .sh ρ with
    | none =>
      rw [z] at e
      cases e
    | some ρ1 =>
      rw [z] at e
      exact (h _ _ _ e).trans (tgN_len (i := i) (d := d) z)
  · cases e
theorem jn_assoc (a b c : Md) : Md.jn (Md.jn a b) c = Md.jn a (Md.jn b c) := by cases a <;> cases b <;> cases c <;> rfl
/-- what was gathered so far -/
def VAcc (G : Cts) (H1 : Hp) (D : Addr) (H : Hp) : Md → List Dn.D → List V → Prop
  | .fr, ds, vs => ∃ f, OTs G H ds vs f ∧ f.Nodup ∧ ∀ a ∈ f, H1 a = none ∧ a ≠ D
  | .sh, ds, vs => Reps G (· = D) H ds vs
  | .tr, _, _ => False
end
end Dn
set_option Elab.async false
set_option linter.all false
set_option maxRecDepth 100000
set_option maxHeartbeats 2000000
/-! Dn17: comprehensions, their rules. -/
namespace Dn
open PySem L2
section
variable {X : Cx} {G : Cts} {W : WX} {H H' : Hp} {av av' : Addr → Prop} {σ σ' : L2.St} {ρ ρ' : Rho}
theorem VAcc.same {H1 H2 : Hp} {D : Addr} {m : Md} {ds : List Dn.D} {vs : List V} (e : Same H H2) (h : VAcc G H1 D H m ds vs) : VAcc G H1 D H2 m ds vs := by
  cases m with
  | fr =>
    obtain ⟨f, a, b, c⟩ := h
    exact ⟨f, OTs.same e a, b, c⟩
  | sh => exact Reps.same e h
  | tr => exact h
theorem VAcc.len {H1 : Hp} {D : Addr} {m : Md} {ds : List Dn.D} {vs : List V} (h : VAcc G H1 D H m ds vs) : ds.length = vs.length := by
  cases m with
  | fr =>
    obtain ⟨f, a, _⟩ := h
    exact (OTs.rep (av := Nav) ds vs f (fun _ _ z => z) a).length
  | sh => exact Reps.length h
  | tr => exact h.elim
theorem VAcc.snoc {H1 H3 H4 : Hp} {D : Addr} {n : Nat} {ma mm : Md} {da : List Dn.D} {acc : List V} {d : Dn.D} {y : V} (h : VAcc G H1 D H ma da acc) (hD : H D = some (.lst acc)) (e1 : Same H1 H) (e3 : Same H H3) (e4 : Same H3 H4)
    (v : VOk G (gD n D) H3 H4 mm d y) (hm : ntr mm = true) : VAcc G H1 D (upd H4 D (.lst (acc ++ [y]))) (Md.jn ma mm) (da ++ [d]) (acc ++ [y]) := by
  have h4 := h.same (e3.trans e4)
  have hD3 := e3 _ _ hD
  have hD4 := e4 _ _ hD3
  have tk := tk_upd (G := G) (o' := .lst (acc ++ [y])) hD4 trivial
  have avk : Av (· = D) H4 (upd H4 D (.lst (acc ++ [y]))) := fun a o n e => by rw [upd_ne n]; exact e
  have fin : Reps G (· = D) H4 da acc → Rep G (· = D) H4 d y → Reps G (· = D) (upd H4 D (.lst (acc ++ [y]))) (da ++ [d]) (acc ++ [y]) := fun a b =>
    Reps.ext tk avk _ _ (Reps.append a ⟨y, [], rfl, b, rfl⟩)
  have frD : ∀ {f : List Addr}, (∀ a ∈ f, H3 a = none) → ∀ a ∈ f, a ≠ D := fun hf a ha z => by
    subst z
    rw [hf a ha] at hD3
    cases hD3
  cases ma with
  | tr => exact h.elim
  | fr =>
    obtain ⟨f, o1, n1, a1⟩ := h
    have o4 := OTs.same (e3.trans e4) o1
    cases mm with
    | tr => cases hm
    | fr =>
      obtain ⟨g, o2, n2, a2⟩ := v
      have hne : ∀ b ∈ f ++ g, b ≠ D := fun b hb => by
        rcases List.mem_append.mp hb with z | z
        · exact (a1 b z).2
        · exact frD a2 b z
      refine ⟨f ++ g, OTs.ext tk _ _ _ (fun b hb => upd_ne (hne b hb)) (OTs.append o4 (show OTs G H4 [d] [y] g from ⟨y, [], g, [], rfl, (List.append_nil _).symm, o2, rfl, rfl⟩)), List.nodup_append.mpr ⟨n1, n2, fun x hx z hz e => ?_⟩, fun b hb => ⟨?_, hne b hb⟩⟩
      · subst e
        obtain ⟨o, q, _⟩ := OTs.there da acc f o1 x hx
        have := e3 _ _ q
        rw [a2 x hz] at this
        cases this
      · rcases List.mem_append.mp hb with z | z
        · exact (a1 b z).1
        · exact (e1.trans e3).free (a2 b z)
    | sh => exact fin (OTs.rep da acc f (fun b hb => (a1 b hb).2) o4) (Rep.weak (fun a _ z => own_gD.mpr z) d y v)
  | sh =>
    cases mm with
    | tr => cases hm
    | fr =>
      obtain ⟨g, o2, n2, a2⟩ := v
      exact fin h4 (OT.rep d y g (frD a2) o2)
    | sh => exact fin h4 (Rep.weak (fun a _ z => own_gD.mpr z) d y v)
theorem wipe_idem {vs : List Nat} : ∀ (ws : List Nat), (∀ w ∈ ws, w ∈ vs) → ∀ σ : L2.St, L2.wipe (L2.wipe σ ws) vs = L2.wipe σ vs
  | [], _, _ => rfl
  | w :: ws, h, σ => by
    rw [show L2.wipe σ (w :: ws) = (L2.wipe σ ws).set w none from rfl, wipe_set (h w List.mem_cons_self), wipe_idem ws fun x hx => h x (List.mem_cons_of_mem _ hx)]
theorem nox_ok {α : Type} {r : R α} {β : Type} {k : α → R β} {y : β} (h : (r.nox).bind k = .ok y) : ∃ a, r = .ok a ∧ k a = .ok y := by
  cases r with
  | ok a => exact ⟨a, rfl, h⟩
  | ex e => cases h
  | bad => cases h
theorem lcL_noex {st : Tg} {t : T} {f : E} {ρ : Rho} : ∀ {ds : List D} {e : Nat}, lcL st t f ρ ds ≠ .ex e
  | [], e, h => by cases h
  | d :: ds, e, h => by
    unfold lcL at h
    split at h
    · cases h
    · rename_i ρ1 _
      cases z : t ρ1 with
      | ex _ =>
        rw [z] at h
        cases h
      | bad =>
        rw [z] at h
        cases h
      | ok b =>
        rw [z] at h
        cases b with
        | false => exact lcL_noex h
        | true =>
          simp only [R.nox, R.bind, if_true] at h
          cases z2 : f ρ1 with
          | ex _ =>
            rw [z2] at h
            cases h
          | bad =>
            rw [z2] at h
            cases h
          | ok x =>
            rw [z2] at h
            simp only at h
            split at h
            · cases z3 : lcL st t f ρ ds with
              | ok y =>
                rw [z3] at h
                cases h
              | ex e' => exact lcL_noex z3
              | bad =>
                rw [z3] at h
                cases h
            · cases h
theorem tE.lc {it : EI} {st : Tg} {t : T} {f : E} {vs : List Nat} {Q : VK} (hlen : ∀ d ρ ρ', st d ρ = some ρ' → ρ'.length = ρ.length) (h : tE G W (eLc it st t f vs) σ H Q) : tLc (tI G W it) (gRO G st vs) (tT G W0 t) (tE G W0 f) vs σ H Q := by
  obtain ⟨fp, fv, ρ, I, q⟩ := h
  have RO := I.ro
  refine ⟨fun _ => [], fv, frzA ρ, RO.lsr0, ?_⟩
  unfold eLc at q
  cases z : it (frzA ρ) with
  | ex e =>
    rw [z] at q
    exact q
  | bad =>
    rw [z] at q
    exact q.elim
  | ok ds =>
    rw [z] at q
    intro J H1 e1 wk D hD
    have q : yE G W fp σ H Q ((lcL st t f (wipeR (frzA ρ) vs) ds).bind _) := q
    cases z2 : lcL st t f (wipeR (frzA ρ) vs) ds with
    | ex e => exact absurd z2 lcL_noex
    | bad =>
      rw [z2] at q
      exact q.elim
    | ok y =>
      rw [z2] at q
      have q : yE G W fp σ H Q (if y.1.length ≤ 1000000 then .ok (.lst y.1, lcM y.2) else .bad) := q
      by_cases hl : y.1.length ≤ 1000000
      · rw [if_pos hl] at q
        have q : ∀ v H', Same H H' → VOk G fp H H' (lcM y.2) (.lst y.1) v → Q v H' := q
        have eD : ∀ {o : HO} {H2 : Hp}, Same H1 H2 → Same H1 (upd H2 D o) := fun e a u ha => by
          rw [upd_ne (ne_of_none ha hD)]
          exact e a u ha
        refine ⟨fun i m H' => m = ds.length - i ∧ i ≤ ds.length ∧ Same H1 H' ∧ ∃ acc da ma, H' D = some (.lst acc) ∧ VAcc G H1 D H' ma da acc ∧ (lcL st t f (wipeR (frzA ρ) vs) (ds.drop i)).bind (fun z => .ok (da ++ z.1, Md.jn ma z.2)) = .ok y,
          ⟨ds.length, rfl, Nat.zero_le _, eD (Same.refl H1), [], [], .fr, upd_same, ⟨[], ⟨rfl, rfl⟩, List.nodup_nil, fun _ z => by cases z⟩, by rw [List.drop_zero, z2]; rfl⟩, ?_⟩
        rintro i m H' ⟨rfl, hi, eH, acc, da, ma, hD', va, ho⟩
        obtain ⟨w1, w2⟩ := wk H' (fun a o _ h => eH a o h) (tk_same eH) i
        by_cases hlt : i < ds.length
        · obtain ⟨go, yl⟩ := w1 ds[i] (List.getElem?_eq_getElem hlt)
          rw [List.drop_eq_getElem_cons hlt] at ho
          refine .inr ⟨go, fun H'' => i + 1 ≤ ds.length ∧ Same H1 H'' ∧ ∃ acc da ma, H'' D = some (.lst acc) ∧ VAcc G H1 D H'' ma da acc ∧ (lcL st t f (wipeR (frzA ρ) vs) (ds.drop (i + 1))).bind (fun z => .ok (da ++ z.1, Md.jn ma z.2)) = .ok y,
            fun H'' h'' => ⟨ds.length - (i + 1), by omega, rfl, h''⟩, fun x H2 yy => ?_⟩
          obtain ⟨e2, rp⟩ := yl x H2 yy
          have eH2 := eH.trans e2
          have hD2 := e2 _ _ hD'
          have ro2 : LRO G (· = D) σ H2 (frzA ρ) := by
            have : LRO G (· = D) σ H (frzA ρ) := RO.weak fun a ⟨o, ha⟩ z => by
              subst z
              rw [e1 _ _ ha] at hD
              cases hD
            exact this.same (e1.trans eH2)
          unfold lcL at ho
          cases z3 : st ds[i] (wipeR (frzA ρ) vs) with
          | none =>
            rw [z3] at ho
            cases ho
          | some ρ1 =>
            rw [z3] at ho
            simp only at ho
            refine ⟨(· = D), wipeR (frzA ρ) vs, ds[i], ro2.wipe vs, rp _ (fun a z => .inr (z ▸ hD)), ρ1, z3, hlen _ _ _ z3, fun σ2 hw L2 => ⟨hw.trans (wipe_idem vs (fun _ z => z) σ), ?_⟩⟩
            cases z4 : t ρ1 with
            | ex e =>
              rw [z4] at ho
              cases ho
            | bad =>
              rw [z4] at ho
              cases ho
            | ok b =>
              rw [z4] at ho
              refine ⟨gD ρ1.length D, fun _ => none, ρ1, L2.lsr hD2, ?_⟩
              rw [z4]
              intro H3 e3
              have hD3 := e3 _ _ hD2
              have L3 := L2.same e3
              cases b with
              | false =>
                refine iteF ⟨hlt, eH2.trans e3, acc, da, ma, hD3, va.same (e2.trans e3), ho⟩
              | true =>
                refine iteT ?_
                simp only [R.nox, R.bind, if_true] at ho
                refine ⟨gD ρ1.length D, fun _ => none, ρ1, L3.lsr hD3, ?_⟩
                cases z5 : f ρ1 with
                | ex e =>
                  rw [z5] at ho
                  cases ho
                | bad =>
                  rw [z5] at ho
                  cases ho
                | ok xm =>
                  obtain ⟨d, mm⟩ := xm
                  rw [z5] at ho
                  simp only at ho
                  intro u H4 e4 v4
                  by_cases nt : ntr (md d mm) = true
                  · rw [if_pos nt] at ho
                    have sn := va.snoc hD' eH (e2.trans e3) e4 v4.nrm nt
                    have len : acc.length < 1000000 := by
                      rw [← va.len]
                      cases z6 : lcL st t f (wipeR (frzA ρ) vs) (ds.drop (i + 1)) with
                      | ex e =>
                        rw [z6] at ho
                        cases ho
                      | bad =>
                        rw [z6] at ho
                        cases ho
                      | ok w =>
                        rw [z6] at ho
                        have ho' : R.ok (da ++ d :: w.1, Md.jn ma (Md.jn (md d mm) w.2)) = R.ok y := ho
                        cases ho'
                        simp only [List.length_append, List.length_cons] at hl
                        omega
                    refine ⟨acc, e4 _ _ hD3, line_lt len, hlt, eD ((eH2.trans e3).trans e4), acc ++ [u], da ++ [d], _, upd_same, sn, ?_⟩
                    cases z6 : lcL st t f (wipeR (frzA ρ) vs) (ds.drop (i + 1)) with
                    | ex e =>
                      rw [z6] at ho
                      cases ho
                    | bad =>
                      rw [z6] at ho
                      cases ho
                    | ok w =>
                      rw [z6] at ho
                      have ho' : R.ok (da ++ d :: w.1, Md.jn ma (Md.jn (md d mm) w.2)) = R.ok y := ho
                      rw [← ho']
                      show R.ok (da ++ [d] ++ w.1, Md.jn (Md.jn ma (md d mm)) w.2) = _
                      rw [jn_assoc, List.append_assoc]
                      rfl
                  · rw [if_neg nt] at ho
                    cases ho
        · have e : i = ds.length := by omega
          subst e
          rw [List.drop_length] at ho
          have ho' : R.ok (da ++ [], Md.jn ma .fr) = R.ok y := ho
          rw [List.append_nil] at ho'
          refine .inl ⟨w2 rfl, q _ _ (e1.trans eH) ?_⟩
          have em : Md.jn ma .fr = ma := by cases ma <;> rfl
          rw [em] at ho'
          cases ho'
          cases ma with
          | tr => exact va.elim
          | fr =>
            obtain ⟨f', o1, n1, a1⟩ := va
            refine ⟨D :: f', ⟨D, acc, f', rfl, rfl, hD', o1⟩, List.nodup_cons.mpr ⟨fun z => (a1 D z).2 rfl, n1⟩, fun a ha => ?_⟩
            rcases List.mem_cons.mp ha with rfl | ha
            · exact e1.free hD
            · exact e1.free (a1 a ha).1
          | sh => exact ⟨D, acc, rfl, fun z => z, hD', Reps.tr (av := (· = D)) va⟩
      · rw [if_neg hl] at q
        exact q.elim
theorem px_lc {elt tg iter : Expr} {ifs : List Expr} {scope : Scope} {own : List (Str × Nat)} {pos : Pos} {it : EI} {st : Tg} {t : T} {f : E} (hlen : ∀ d ρ ρ', st d ρ = some ρ' → ρ'.length = ρ.length) (hc : X.calm = true) (hN : X.N.Nodup) (hi : PI X tg iter (tI G W it)) (ok : BlkOk X.N X.env.scope scope own)
    (hg : ∀ (s : Shared) (H : Hp) (C : Addr) (cl : List (Str × Addr)) (fp : List Addr), PG (X.blk s H scope (compEnvC scope cl C X.env) fp) tg (gRO G st (own.map (·.2)))) (ht : ∀ (s : Shared) (H : Hp) (C : Addr) (cl : List (Str × Addr)) (fp : List Addr), PTs (X.blk s H scope (compEnvC scope cl C X.env) fp) ifs (tT G W0 t))
    (he : ∀ (s : Shared) (H : Hp) (C : Addr) (cl : List (Str × Addr)) (fp : List Addr), PE (X.blk s H scope (compEnvC scope cl C X.env) fp) elt (tE G W0 f)) (hs : ∀ x, foldedSetIterable iter X.env x = pure x := by intro _; rfl) :
    PE X (.ListComp elt [⟨tg, iter, ifs, 0⟩] scope pos) (tE G W (eLc it st t f (own.map (·.2)))) := PE.of (pe_lc hc hN hi ok hg ht he hs) fun σ H Q h => tE.lc hlen h
theorem px_setLc {i : Nat} {y : Str} {py : Pos} {elt tg iter : Expr} {ifs : List Expr} {scope : Scope} {own : List (Str × Nat)} {pos spos : Pos} {it : EI} {st : Tg} {t : T} {f : E} (hlen : ∀ d ρ ρ', st d ρ = some ρ' → ρ'.length = ρ.length) (hc : X.calm = true) (hN : X.N.Nodup) (hy : X.N[i]? = some y) (hyl : X.env.scope.names.lookup y = some .local)
    (hsw : swapsWith (.ListComp elt [⟨tg, iter, ifs, 0⟩] scope pos) (some (.Name y py)) spos.line X.env = pure true) (hi : PI X tg iter (tI G W it)) (ok : BlkOk X.N X.env.scope scope own)
    (hg : ∀ (s : Shared) (H : Hp) (C : Addr) (cl : List (Str × Addr)) (fp : List Addr), PG (X.blk s H scope (compEnvC scope cl C X.env) fp) tg (gRO G st (own.map (·.2)))) (ht : ∀ (s : Shared) (H : Hp) (C : Addr) (cl : List (Str × Addr)) (fp : List Addr), PTs (X.blk s H scope (compEnvC scope cl C X.env) fp) ifs (tT G W0 t))
    (he : ∀ (s : Shared) (H : Hp) (C : Addr) (cl : List (Str × Addr)) (fp : List Addr), PE (X.blk s H scope (compEnvC scope cl C X.env) fp) elt (tE G W0 f)) (hs : ∀ x, foldedSetIterable iter X.env x = pure x := by intro _; rfl) :
    PS X (.Assign [.Name y py] (.ListComp elt [⟨tg, iter, ifs, 0⟩] scope pos) spos) (tAsg (tE G W (eLc it st t f (own.map (·.2)))) (gName i)) :=
  PS.of (ps_setLc hc hN hy hyl hsw hi ok hg ht he hs) fun D σ H h => tE.lc hlen h
theorem pts_of1 {c : Expr} {t : T} (h : PT X c (tT G W0 t)) : PTs X [c] (tT G W0 t) := pts_one h
theorem pts_ofNil : PTs X [] (tT G W0 tYes') := ⟨fun pins s σ H Q I hw => pts_nil.run pins s σ H Q I (by
  obtain ⟨fp, fv, ρ, J, q⟩ := hw
  exact q H (Same.refl H))⟩
theorem tgT_len {n : Nat} {t : Tgs} (h : ∀ ds ρ ρ', t ds ρ = some ρ' → ρ'.length = ρ.length) : ∀ d ρ ρ', tgT n t d ρ = some ρ' → ρ'.length = ρ.length := fun d ρ ρ' e => by
  unfold tgT at e
  split at e
  · split at e
    · exact h _ _ _ e
    · cases e
  · cases e
theorem tgsNil_len : ∀ ds ρ ρ', tgsNil ds ρ = some ρ' → ρ'.length = ρ.length := fun ds ρ ρ' e => by
  unfold tgsNil at e
  split at e
  · cases e
    rfl
  · cases e
theorem tk0 : Takes X W0 := by
  intro u s' h
  obtain ⟨_, _, _, _, _, _, _, _, _, _, _, _, _, _, _, _, z⟩ := h
  exact z.elim
end
end Dn

set_option Elab.async false
set_option linter.all false
set_option maxRecDepth 100000
set_option maxHeartbeats 2000000
/-! Dn18: built-in calls by values; index. -/
namespace Dn
open PySem L2
section
variable {X : Cx} {G : Cts} {W : WX}
/-! ### all, sum -/
def blsOf : List D → Option (List Bool)
  | [] => some []
  | .bl b :: r => (blsOf r).map (b :: ·)
  | _ => none
def intsOf : List D → Option (List Int)
  | [] => some []
  | .int b :: r => (intsOf r).map (b :: ·)
  | _ => none
theorem blsOf_some : ∀ {xs : List D} {ss : List Bool}, blsOf xs = some ss → xs = ss.map .bl
  | [], ss, h => by
    cases h
    rfl
  | .bl s :: r, ss, h => by
    unfold blsOf at h
    cases z : blsOf r with
    | none =>
      rw [z] at h
      cases h
    | some t =>
      rw [z] at h
      cases h
      rw [blsOf_some z]
      rfl
  | .non :: _, _, h => by cases h
  | .str _ :: _, _, h => by cases h
  | .int _ :: _, _, h => by cases h
  | .tup _ :: _, _, h => by cases h
  | .lst _ :: _, _, h => by cases h
  | .dct _ _ :: _, _, h => by cases h
  | .obj _ _ _ :: _, _, h => by cases h
  | .scr _ :: _, _, h => by cases h
  | .ty _ :: _, _, h => by cases h
  | .cls _ :: _, _, h => by cases h
theorem intsOf_some : ∀ {xs : List D} {ss : List Int}, intsOf xs = some ss → xs = ss.map .int
  | [], ss, h => by
    cases h
    rfl
  | .int s :: r, ss, h => by
    unfold intsOf at h
    cases z : intsOf r with
    | none =>
      rw [z] at h
      cases h
    | some t =>
      rw [z] at h
      cases h
      rw [intsOf_some z]
      rfl
  | .non :: _, _, h => by cases h
  | .str _ :: _, _, h => by cases h
  | .bl _ :: _, _, h => by cases h
  | .tup _ :: _, _, h => by cases h
  | .lst _ :: _, _, h => by cases h
  | .dct _ _ :: _, _, h => by cases h
  | .obj _ _ _ :: _, _, h => by cases h
  | .scr _ :: _, _, h => by cases h
  | .ty _ :: _, _, h => by cases h
  | .cls _ :: _, _, h => by cases h
theorem blsOf_map : ∀ ss : List Bool, blsOf (ss.map .bl) = some ss
  | [] => rfl
  | s :: r => by
    show (blsOf (r.map .bl)).map (s :: ·) = _
    rw [blsOf_map r]
    rfl
theorem intsOf_map : ∀ ss : List Int, intsOf (ss.map .int) = some ss
  | [] => rfl
  | s :: r => by
    show (intsOf (r.map .int)).map (s :: ·) = _
    rw [intsOf_map r]
    rfl
theorem strsOf_map : ∀ ss : List Str, strsOf (ss.map .str) = some ss
  | [] => rfl
  | s :: r => by
    show (strsOf (r.map .str)).map (s :: ·) = _
    rw [strsOf_map r]
    rfl
theorem reps_bls_of {av : Addr → Prop} {H : Hp} : ∀ {ns : List Bool} {vs : List V}, Reps G av H (ns.map D.bl) vs → vs = ns.map V.bl
  | [], vs, h => h
  | n :: ns, vs, ⟨v, r, e, h1, h2⟩ => by
    obtain rfl : v = .bl n := h1
    subst e
    rw [reps_bls_of h2]
    rfl
theorem reps_ints_of {av : Addr → Prop} {H : Hp} : ∀ {ns : List Int} {vs : List V}, Reps G av H (ns.map D.int) vs → vs = ns.map V.int
  | [], vs, h => h
  | n :: ns, vs, ⟨v, r, e, h1, h2⟩ => by
    obtain rfl : v = .int n := h1
    subst e
    rw [reps_ints_of h2]
    rfl
/-- one list of a kind -/
def lOf {α : Type} (k : List D → Option (List α)) (f : List α → Option D) : List D → Option D := fun ds => match ds with
  | [.lst xs] => (k xs).bind f
  | _ => none
theorem lOf_some {α : Type} {k : List D → Option (List α)} {f : List α → Option D} {ds : List D} {c : D} (h : lOf k f ds = some c) : ∃ xs ss, ds = [.lst xs] ∧ k xs = some ss ∧ f ss = some c := by
  unfold lOf at h
  split at h
  · rename_i xs
    cases z : k xs with
    | none =>
      rw [z] at h
      cases h
    | some ss =>
      rw [z] at h
      exact ⟨xs, ss, rfl, z, h⟩
  · cases h
def oAll := lOf blsOf fun bs => some (.bl (bs.all id))
theorem opn_all : OpN G (rAll G.K) oAll := by
  intro vs ds H hr c hc Q k
  obtain ⟨xs, ss, rfl, z, e⟩ := lOf_some hc
  cases e
  have e1 := blsOf_some z
  subst e1
  obtain ⟨v, rfl, a, ws, rfl, _, s, r⟩ := one_of hr
  have := reps_bls_of r
  subst this
  exact ⟨a, ss, rfl, SqL.of s, k _ H (Same.refl H) Fresh.bl⟩
def oSum := lOf intsOf fun bs => some (.int bs.sum)
theorem opn_sum : OpN G (rSum G.K) oSum := by
  intro vs ds H hr c hc Q k
  obtain ⟨xs, ss, rfl, z, e⟩ := lOf_some hc
  cases e
  have e1 := intsOf_some z
  subst e1
  obtain ⟨v, rfl, a, ws, rfl, _, s, r⟩ := one_of hr
  have := reps_ints_of r
  subst this
  exact ⟨a, ss, rfl, SqL.of s, k _ H (Same.refl H) Fresh.int⟩
/-! ### two numbers -/
def i2 (f : Int → Int → Option D) : List D → Option D := fun ds => match ds with
  | [.int i, .int j] => f i j
  | _ => none
theorem i2_some {f : Int → Int → Option D} {ds : List D} {c : D} (h : i2 f ds = some c) : ∃ i j, ds = [.int i, .int j] ∧ f i j = some c := by
  unfold i2 at h
  split at h
  · exact ⟨_, _, rfl, h⟩
  · cases h
theorem ints2 {av : Addr → Prop} {H : Hp} {i j : Int} {vs : List V} (h : Reps G av H [.int i, .int j] vs) : vs = [.int i, .int j] := reps_ints_of (ns := [i, j]) h
def oMax2 := i2 fun i j => some (.int (if j > i then j else i))
def oMin2 := i2 fun i j => some (.int (if j < i then j else i))
theorem opn_max2 : OpN G (fun xs H Q => ∃ i j, xs = [.int i, .int j] ∧ Q (.int (if j > i then j else i)) H) oMax2 := by
  intro vs ds H hr c hc Q k
  obtain ⟨i, j, rfl, e⟩ := i2_some hc
  cases e
  exact ⟨i, j, ints2 hr, k _ H (Same.refl H) Fresh.int⟩
theorem opn_min2 : OpN G (fun xs H Q => ∃ i j, xs = [.int i, .int j] ∧ Q (.int (if j < i then j else i)) H) oMin2 := by
  intro vs ds H hr c hc Q k
  obtain ⟨i, j, rfl, e⟩ := i2_some hc
  cases e
  exact ⟨i, j, ints2 hr, k _ H (Same.refl H) Fresh.int⟩
def oDivmod := i2 fun i j => if 0 < j ∧ j < 1000000000 then some (.tup [.int (i / j), .int (i % j)]) else none
theorem opn_divmod : OpN G (fun xs H Q => ∃ i j, xs = [.int i, .int j] ∧ CDiv i j ∧ ∀ p, H p = none → Q (.ref p) (upd H p (.tup [.int (i / j), .int (i % j)]))) oDivmod := by
  intro vs ds H hr c hc Q k
  obtain ⟨i, j, rfl, e⟩ := i2_some hc
  by_cases h : 0 < j ∧ j < 1000000000
  · rw [if_pos h] at e
    cases e
    exact ⟨i, j, ints2 hr, ⟨h.1, by omega⟩, fun p hp => k _ _ (same_new hp) (Fresh.tup rfl (reps_ints [_, _]) hp)⟩
  · rw [if_neg h] at e
    cases e
/-! ### str(x) -/
def oStr : List D → Option D := fun ds => match ds with
  | [.int i] => if i.natAbs < 2 ^ 1000 then some (.str (toString i)) else none
  | [.str s] => some (.str s)
  | _ => none
theorem opn_str : OpN G (fun xs H Q => (∃ i : Int, xs = [.int i] ∧ i.natAbs.log2 < 1920 ∧ Q (.str (toString i)) H) ∨ ∃ a, xs = [.str a] ∧ Q (.str a) H) oStr := by
  intro vs ds H hr c hc Q k
  unfold oStr at hc
  split at hc
  · rename_i i
    split at hc
    · rename_i h
      cases hc
      refine .inl ⟨i, intOne hr, ?_, k _ H (Same.refl H) Fresh.str⟩
      by_cases z : i.natAbs = 0
      · rw [z]
        decide
      · exact Nat.lt_trans ((Nat.log2_lt z).mpr h) (by decide)
    · cases hc
  · cases hc
    exact .inr ⟨_, strOne hr, k _ H (Same.refl H) Fresh.str⟩
  · cases hc
theorem call_strA : CallR X (.type "str") (fun xs H Q => (∃ i : Int, xs = [.int i] ∧ i.natAbs.log2 < 1920 ∧ Q (.str (toString i)) H) ∨ ∃ a, xs = [.str a] ∧ Q (.str a) H) := CallR.or call_str_int SkE.call_str_str
/-! ### index -/
/-- the first place of it -/
def firstAt (p : D → Bool) : List D → Option Nat
  | [] => none
  | d :: ds => if p d = true then some 0 else (firstAt p ds).map (· + 1)
def D.flatV : D → Bool
  | .non => true
  | .bl _ => true
  | .int _ => true
  | .str _ => true
  | _ => false
theorem flatV_of {av : Addr → Prop} {H : Hp} {d : D} {v : V} (h : d.flatV = true) (r : Rep G av H d v) : flatV v = true := by
  cases d <;> first | (subst r; rfl) | cases h
theorem eqV_of {av : Addr → Prop} {H : Hp} {d e : D} {v u : V} (h : d.flatV = true) (h' : e.flatV = true) (r : Rep G av H d v) (r' : Rep G av H e u) : eqV v u = d.eqv e := by
  cases d <;> first | (cases h; done) | (subst r; cases e <;> first | (subst r'; rfl) | cases h')
theorem firstAt_spec {p : D → Bool} : ∀ {ds : List D} {j : Nat}, firstAt p ds = some j → (∃ z, ds[j]? = some z ∧ p z = true) ∧ ∀ m z, m < j → ds[m]? = some z → p z = false
  | [], j, h => by cases h
  | d :: ds, j, h => by
    unfold firstAt at h
    by_cases q : p d = true
    · rw [if_pos q] at h
      cases h
      exact ⟨⟨d, rfl, q⟩, fun m z hm => by omega⟩
    · rw [if_neg q] at h
      cases w : firstAt p ds with
      | none =>
        rw [w] at h
        cases h
      | some k =>
        rw [w] at h
        cases h
        obtain ⟨⟨z, h1, h2⟩, h3⟩ := firstAt_spec w
        refine ⟨⟨z, h1, h2⟩, fun m z (hm : m < k + 1) hz => ?_⟩
        cases m with
        | zero =>
          cases hz
          exact Bool.eq_false_iff.mpr q
        | succ m => exact h3 m z (by omega) hz
def oIndexL : D → List D → Option D := fun d ds => match d with
  | .lst xs => (match ds with
    | [y] => if xs.all D.flatV = true ∧ y.flatV = true then (firstAt (fun z => z.eqv y) xs).map fun j => .int (j : Nat) else none
    | _ => none)
  | _ => none
theorem flat_all {av : Addr → Prop} {H : Hp} : ∀ {xs : List D} {vs : List V}, xs.all D.flatV = true → Reps G av H xs vs → vs.all flatV = true
  | [], vs, _, h => by
    obtain rfl : vs = [] := h
    rfl
  | x :: xs, vs, ha, h => by
    obtain ⟨v, r, rfl, h1, h2⟩ := h
    rw [List.all_cons, Bool.and_eq_true] at ha
    rw [List.all_cons, flatV_of ha.1 h1, flat_all ha.2 h2]
    rfl
theorem Reps.got {av : Addr → Prop} {H : Hp} : ∀ {ds : List D} {vs : List V} {i : Nat} {v : V}, Reps G av H ds vs → vs[i]? = some v → ∃ d, ds[i]? = some d ∧ Rep G av H d v
  | [], _, _, _, h, e => by
    obtain rfl := h
    simp at e
  | d :: ds, _, 0, v', ⟨v, r, e, h, _⟩, q => by
    subst e
    cases q
    exact ⟨d, rfl, h⟩
  | d :: ds, _, i + 1, v', ⟨v, r, e, _, h⟩, q => by
    subst e
    exact Reps.got (i := i) h q
theorem all_get {p : D → Bool} {xs : List D} {i : Nat} {d : D} (h : xs.all p = true) (e : xs[i]? = some d) : p d = true := List.all_eq_true.mp h d (List.mem_of_getElem? e)
theorem opm_indexL : OpM G (rIndex G.K) oIndexL := by
  intro d ds c h x vs H hx hs Q k
  unfold oIndexL at h
  split at h
  · rename_i xs
    split at h
    · rename_i y
      split at h
      · rename_i fl
        obtain ⟨u, rfl, ry⟩ := one_of hs
        obtain ⟨a, ws, rfl, _, s, rs⟩ := hx
        cases w : firstAt (fun z => z.eqv y) xs with
        | none =>
          rw [w] at h
          cases h
        | some j =>
          rw [w] at h
          cases h
          obtain ⟨⟨z, h1, h2⟩, h3⟩ := firstAt_spec w
          obtain ⟨zv, h4, h5⟩ := rs.get h1
          refine ⟨a, ws, u, j, zv, rfl, rfl, SqL.of s, flatV_of fl.2 ry, flat_all fl.1 rs, h4, ?_, fun m z' hm hz => ?_, k _ H (Same.refl H) Fresh.int⟩
          · rw [eqV_of (all_get fl.1 h1) fl.2 h5 ry]
            exact h2
          · obtain ⟨d', h6, h7⟩ := rs.got hz
            rw [eqV_of (all_get fl.1 h6) fl.2 h7 ry]
            exact h3 m d' hm h6
      · cases h
    · cases h
  · cases h
end
end Dn
set_option Elab.async false
set_option linter.all false
set_option maxRecDepth 100000
set_option maxHeartbeats 2000000
/-! Dn19: reversed, enumerate, zip. -/
namespace Dn
open PySem L2
def itK (k : D → Option (List D)) (f : E) : EI := fun ρ => (f ρ).bind fun a => match a.2 with
  | .tr => if a.1.imm then R.opt (k a.1) else .bad
  | _ => R.opt (k a.1)
def revD : D → Option (List D)
  | .lst xs => some xs.reverse
  | .tup xs => some xs.reverse
  | .scr xs => some (xs.map .int).reverse
  | _ => none
section
variable {X : Cx} {G : Cts} {W : WX} {tg : Expr}
theorem tE.itK {k : D → Option (List D)} {f : E} {σ : L2.St} {H : Hp} {P : VK} {Q : It → Hp → Prop} {fp : Nat → List Addr} {fv : Nat → Option V} {ρ : Rho} (I : LSR G fp fv σ H ρ) (q : yI G W fp σ H Q (itK k f ρ))
    (h : ∀ d xs, k d = some xs → ∀ v H1, Same H H1 → Rep G (Own fp) H1 d v → (∀ J, Wk G (Own fp) J H1 xs → Q J H1) → P v H1) : tE G W f σ H P := by
  refine tE.of_bind (y := yI G W fp σ H Q) I q (fun e h => h) (fun h => h) fun d m q v H1 e1 v1 => ?_
  have opt : yI G W fp σ H Q (R.opt (k d)) → ∃ xs, k d = some xs ∧ ∀ J, Wk G (Own fp) J H1 xs → Q J H1 := fun q => by
    cases w : k d with
    | none =>
      rw [w] at q
      exact q.elim
    | some xs =>
      rw [w] at q
      exact ⟨xs, rfl, fun J wk => q J H1 e1 wk⟩
  cases m with
  | fr =>
    obtain ⟨xs, a, b⟩ := opt q
    exact h d xs a v H1 e1 (VOk.sh I (fun z => by cases z) v1) b
  | sh =>
    obtain ⟨xs, a, b⟩ := opt q
    exact h d xs a v H1 e1 v1 b
  | tr =>
    by_cases im : d.imm = true
    · simp only [im, if_true] at q
      obtain ⟨xs, a, b⟩ := opt q
      exact h d xs a v H1 e1 (VOk.sh (m := .fr) I (fun z => by cases z) (Fresh.of_imm im v1.tr)) b
    · simp only [im] at q
      exact q.elim
theorem Reps.rev {av : Addr → Prop} {H : Hp} : ∀ {ds : List D} {vs : List V}, Reps G av H ds vs → Reps G av H ds.reverse vs.reverse
  | [], vs, h => by
    obtain rfl : vs = [] := h
    exact rfl
  | d :: ds, vs, ⟨v, r, e, h1, h2⟩ => by
    subst e
    rw [List.reverse_cons, List.reverse_cons]
    exact Reps.append (Reps.rev h2) ⟨v, [], rfl, h1, rfl⟩
theorem rev_at {vs : List V} {i : Nat} (hi : i < vs.length) : vs.reverse[i]? = vs[vs.length - 1 - i]? := List.getElem?_reverse hi
theorem wk_rev {pr : Hp → Addr → List V → Prop} {J : It} {a : Addr} {vs : List V} {av : Addr → Prop} {H1 : Hp} {ds : List D} (hgo : ∀ i H, J.go i H ↔ i < vs.length ∧ ∃ (xs : List V) (x : V), pr H a xs ∧ xs[vs.length - 1 - i]? = some x)
    (hyl : ∀ i H x H', J.yld i H x H' → H' = H ∧ ∀ xs, pr H a xs → xs[vs.length - 1 - i]? = some x) (hst : ∀ i H, J.stop i H ↔ vs.length ≤ i) (hp : ∀ H, Av av H1 H → Tk G H1 H → pr H a vs) (r : Reps G av H1 ds vs) : Wk G av J H1 ds.reverse := by
  intro H k t i
  have h := hp H k t
  have rr := r.rev
  refine ⟨fun d hd => ?_, fun hl => (hst i H).mpr (by rw [List.length_reverse, r.length] at hl; exact Nat.le_of_eq hl)⟩
  obtain ⟨v, hv, rv⟩ := rr.get hd
  have hi : i < vs.length := by
    have := (List.getElem?_eq_some_iff.mp hv).1
    rw [List.length_reverse] at this
    exact this
  rw [rev_at hi] at hv
  refine ⟨(hgo i H).mpr ⟨hi, vs, v, h, hv⟩, fun x H' y => ?_⟩
  obtain ⟨e, z⟩ := hyl i H x H' y
  subst e
  have := z vs h
  rw [hv] at this
  cases this
  exact ⟨Same.refl _, fun av' k' => Rep.wk k t k' rv⟩
theorem pi_ofRev {e : Expr} {f : E} {p pos : Pos} (hg : Gl X "reversed") (hm : X.mg "reversed" = none) (he : PE X e (tE G W f)) (hK : X.K = G.K := by rfl) (hs : starEach [e] X.env = (false, eval e X.env) :: starEach [] X.env := by rfl) :
    PI X tg (.Call (.Name "reversed" p) [e] [] pos) (tI G W (itK revD f)) := by
  refine PI.of (RT.pi_revA hg hm he hs) fun σ H Q ⟨fp, fv, ρ, I, q⟩ => ?_
  refine tE.itK I q fun d xs hd v H1 e1 r k => ?_
  rw [hK]
  cases d with
  | lst ys =>
    cases hd
    obtain ⟨a, vs, rfl, n, s, rs⟩ := r
    exact ⟨a, vs, rfl, .inl ⟨SqL.of s, k _ (wk_rev (pr := fun H a xs => SqL G.K H a xs) (a := a) (vs := vs) (fun i H => Iff.rfl) (fun i H x H' y => y) (fun i H => Iff.rfl) (fun H kk t => SqL.of (kk a _ n s)) rs)⟩⟩
  | scr ns =>
    cases hd
    obtain ⟨a, rfl, s⟩ := r
    exact ⟨a, _, rfl, .inl ⟨s.seq, k _ (wk_rev (pr := fun H a xs => SqL G.K H a xs) (a := a) (vs := ns.map V.int) (fun i H => Iff.rfl) (fun i H x H' y => y) (fun i H => Iff.rfl) (fun H kk t => (t.2 a _ s).seq) (reps_ints ns))⟩⟩
  | tup ys =>
    cases hd
    obtain ⟨a, vs, rfl, s, rs⟩ := r
    exact ⟨a, vs, rfl, .inr ⟨s, k _ (wk_rev (pr := fun H a xs => SqT G.K H a xs) (a := a) (vs := vs) (fun i H => Iff.rfl) (fun i H x H' y => y) (fun i H => Iff.rfl) (fun H kk t => t.1 a _ s) rs)⟩⟩
  | _ => cases hd
end
end Dn
set_option Elab.async false
set_option linter.all false
set_option maxRecDepth 100000
set_option maxHeartbeats 2000000
/-! Dn20: how the later denotations are reckoned. -/
namespace Dn
open PySem L2
@[simp] theorem eUn_eq (op : D → Option D) (f : E) (ρ : Rho) : eUn op f ρ = (f ρ).bind fun a => (R.opt (op a.1)).bind fun c => .ok (c, .fr) := rfl
@[simp] theorem oNeg_int (i : Int) : oNeg (.int i) = some (.int (-i)) := rfl
@[simp] theorem pNo_eq (ρ : Rho) : pNo ρ = .ok none := rfl
/-- the place that data is -/
def D.place : D → R (Option Int)
  | .int i => .ok (some i)
  | _ => .bad
@[simp] theorem place_int (i : Int) : D.place (.int i) = .ok (some i) := rfl
@[simp] theorem pAt_eq (f : E) (ρ : Rho) : pAt f ρ = (f ρ).bind fun a => a.1.place := by
  unfold pAt
  cases f ρ with
  | ok a => obtain ⟨d, m⟩ := a; cases d <;> rfl
  | ex e => rfl
  | bad => rfl
@[simp] theorem eSl_eq (f : E) (lo hi : EP) (ρ : Rho) : eSl f lo hi ρ = (f ρ).bind fun a => (lo ρ).bind fun l => (hi ρ).bind fun h => (R.opt (slD a.1 l h)).bind fun c => .ok (c, flM c a.2) := rfl
@[simp] theorem slD_lst (xs : List D) (lo hi : Option Int) : slD (.lst xs) lo hi = some (.lst (cutL xs lo hi)) := rfl
@[simp] theorem slD_tup (xs : List D) (lo hi : Option Int) : slD (.tup xs) lo hi = some (.tup (cutL xs lo hi)) := rfl
@[simp] theorem slD_scr (xs : List Int) (lo hi : Option Int) : slD (.scr xs) lo hi = some (.lst ((cutL xs lo hi).map .int)) := rfl
@[simp] theorem slD_str (z : Str) (lo hi : Option Int) : slD (.str z) lo hi = if z.length ≤ 1000000 then some (.str (cutS z lo hi)) else none := rfl
theorem flM_imms {xs : List D} {m : Md} (h : D.imms xs = true) : flM (.lst xs) m = .fr := if_pos h
theorem flM_tup {xs : List D} {m : Md} (h : D.imms xs = true) : flM (.tup xs) m = .fr := if_pos h
@[simp] theorem flM_lst (xs : List D) (m : Md) : flM (.lst xs) m = if D.imms xs = true then .fr else m.lo := rfl
@[simp] theorem flM_tup' (xs : List D) (m : Md) : flM (.tup xs) m = if D.imms xs = true then .fr else m.lo := rfl
@[simp] theorem flM_str (x : Str) (m : Md) : flM (.str x) m = .fr := rfl
@[simp] theorem imms_ints' (ns : List Int) : D.imms (ns.map D.int) = true := imms_ints ns
@[simp] theorem imms_strs' (ns : List Str) : D.imms (ns.map D.str) = true := imms_strs ns
theorem imms_bls : ∀ ns : List Bool, D.imms (ns.map D.bl) = true
  | [] => rfl
  | n :: ns => imms_bls ns
@[simp] theorem imms_bls' (ns : List Bool) : D.imms (ns.map D.bl) = true := imms_bls ns
@[simp] theorem pls_ints (n : Nat) : ∀ ns : List Int, D.pls n (ns.map D.int) = true
  | [] => by simp
  | i :: ns => by simp [pls_ints n ns]
@[simp] theorem pls_strs (n : Nat) : ∀ ns : List Str, D.pls n (ns.map D.str) = true
  | [] => by simp
  | i :: ns => by simp [pls_strs n ns]
@[simp] theorem pls_bls (n : Nat) : ∀ ns : List Bool, D.pls n (ns.map D.bl) = true
  | [] => by simp
  | i :: ns => by simp [pls_bls n ns]
theorem eqvs_ints : ∀ x y : List Int, D.eqvs (x.map .int) (y.map .int) = (x == y)
  | [], [] => rfl
  | [], b :: y => rfl
  | a :: x, [] => rfl
  | a :: x, b :: y => by
    show (a == b && D.eqvs (x.map .int) (y.map .int)) = _
    rw [eqvs_ints x y]
    rfl
theorem eqvs_strs : ∀ x y : List Str, D.eqvs (x.map .str) (y.map .str) = (x == y)
  | [], [] => rfl
  | [], b :: y => rfl
  | a :: x, [] => rfl
  | a :: x, b :: y => by
    show (a == b && D.eqvs (x.map .str) (y.map .str)) = _
    rw [eqvs_strs x y]
    rfl
/-! ### what is cut -/
theorem sIx_in {n : Nat} {d : Nat} {i : Int} (h0 : 0 ≤ i) (h1 : i ≤ n) : HT.sIx n d (some i) = i.toNat := by
  unfold HT.sIx
  simp only
  rw [if_neg (by omega)]
  omega
theorem cut_to {α : Type} {xs : List α} {i : Int} (h0 : 0 ≤ i) : cutL xs none (some i) = xs.take i.toNat := by
  unfold cutL
  rw [show HT.sIx xs.length 0 none = 0 from rfl, List.drop_zero, Nat.sub_zero]
  unfold HT.sIx
  simp only
  rw [if_neg (by omega)]
  by_cases h : i.toNat ≤ xs.length
  · rw [Nat.min_eq_left h]
  · rw [Nat.min_eq_right (by omega), List.take_length, List.take_of_length_le (by omega)]
theorem cut_from {α : Type} {xs : List α} {i : Int} (h0 : 0 ≤ i) : cutL xs (some i) none = xs.drop i.toNat := by
  unfold cutL
  rw [show HT.sIx xs.length xs.length none = xs.length from rfl]
  unfold HT.sIx
  simp only
  rw [if_neg (by omega)]
  by_cases h : i.toNat ≤ xs.length
  · rw [Nat.min_eq_left h]
    exact List.take_of_length_le (by rw [List.length_drop]; omega)
  · rw [Nat.min_eq_right (by omega), Nat.sub_self, List.take_zero, List.drop_of_length_le (by omega)]
theorem cut_within {α : Type} {xs : List α} {i j : Int} (h0 : 0 ≤ i) (h1 : 0 ≤ j) : cutL xs (some i) (some j) = (xs.drop i.toNat).take (j.toNat - i.toNat) := by
  unfold cutL HT.sIx
  simp only
  rw [if_neg (by omega), if_neg (by omega)]
  by_cases h : i.toNat ≤ xs.length
  · rw [Nat.min_eq_left h]
    by_cases h2 : j.toNat ≤ xs.length
    · rw [Nat.min_eq_left h2]
    · rw [Nat.min_eq_right (by omega), List.take_of_length_le (by rw [List.length_drop]; omega), List.take_of_length_le (by rw [List.length_drop]; omega)]
  · rw [List.drop_of_length_le (i := min i.toNat xs.length) (by omega), List.drop_of_length_le (by omega), List.take_nil, List.take_nil]
theorem cut_all {α : Type} {xs : List α} : cutL xs none none = xs := by
  unfold cutL
  rw [show HT.sIx xs.length 0 none = 0 from rfl, show HT.sIx xs.length xs.length none = xs.length from rfl, List.drop_zero, Nat.sub_zero, List.take_length]
theorem cut_butlast {α : Type} {xs : List α} : cutL xs none (some (-1)) = xs.dropLast := by
  unfold cutL
  rw [show HT.sIx xs.length 0 none = 0 from rfl, List.drop_zero, Nat.sub_zero, List.dropLast_eq_take]
  congr 1
  unfold HT.sIx
  simp only
  rw [if_pos (by decide)]
  omega
theorem cutS_eq (z : Str) (lo hi : Option Int) : cutS z lo hi = ⟨(cutL z.cps.toList lo hi).toArray⟩ := by
  unfold cutS cutL
  rfl
/-! ### times, copies, calls -/
@[simp] theorem oRep_lst (xs : List D) (k : Int) : oRep (.lst xs) (.int k) = if D.imms xs = true ∧ k ≤ 1000000 ∧ -1000000 ≤ k ∧ xs.length * k.toNat ≤ 1000000 then some (.lst (List.replicate k.toNat xs).flatten) else none := rfl
theorem rep_one {α : Type} (x : α) : ∀ n : Nat, (List.replicate n [x]).flatten = List.replicate n x
  | 0 => rfl
  | n + 1 => by rw [List.replicate_succ, List.flatten_cons, rep_one x n]; rfl
@[simp] theorem eCopy_eq (op : D → Option D) (f : E) (ρ : Rho) : eCopy op (eCons f eNil) ρ = (f ρ).bind fun a => (R.opt (op a.1)).bind fun c => .ok (c, flM c (md a.1 a.2)) := by
  unfold eCopy eCons eNil
  cases f ρ with
  | ok a =>
    obtain ⟨d, m⟩ := a
    simp only [R.bind]
    cases op d with
    | none => rfl
    | some c =>
      show R.ok (c, flM c (Md.jn (md d m) .fr)) = _
      have : Md.jn (md d m) .fr = md d m := by cases md d m <;> rfl
      rw [this]
      rfl
  | ex e => rfl
  | bad => rfl
@[simp] theorem lstOf_lst (xs : List D) : lstOf (.lst xs) = some (.lst xs) := rfl
@[simp] theorem lstOf_tup (xs : List D) : lstOf (.tup xs) = some (.lst xs) := rfl
@[simp] theorem lstOf_scr (xs : List Int) : lstOf (.scr xs) = some (.lst (xs.map .int)) := rfl
@[simp] theorem lstOf_dct (ks : List Key) (ds : List D) : lstOf (.dct ks ds) = some (.lst (ks.map keyD)) := rfl
@[simp] theorem tupOf_lst (xs : List D) : tupOf (.lst xs) = some (.tup xs) := rfl
@[simp] theorem tupOf_tup (xs : List D) : tupOf (.tup xs) = some (.tup xs) := rfl
@[simp] theorem tupOf_scr (xs : List Int) : tupOf (.scr xs) = some (.tup (xs.map .int)) := rfl
@[simp] theorem eMet_eq (T : String) (op : D → List D → Option D) (f : E) (g : EA) (ρ : Rho) : eMet T op f g ρ = (f ρ).bind fun a => if a.1.isT T = true then ((g ρ).bind fun b => (R.opt (op a.1 b.1)).bind fun c => .ok (c, .fr)) else .bad := rfl
@[simp] theorem eMet0_eq (T : String) (op : D → List D → Option D) (f : E) (ρ : Rho) : eMet0 T op f ρ = (f ρ).bind fun a => if a.1.isT T = true then ((R.opt (op a.1 [])).bind fun c => .ok (c, .fr)) else .bad := rfl
@[simp] theorem isT_str (x : Str) : D.isT "str" (.str x) = true := rfl
@[simp] theorem isT_lst (x : List D) : D.isT "list" (.lst x) = true := rfl
@[simp] theorem isT_scr (x : List Int) : D.isT "list" (.scr x) = true := rfl
@[simp] theorem oIn_lst (a : D) (xs : List D) : oIn a (.lst xs) = if a.pl 9 = true ∧ D.pls 9 xs = true then some (.bl (xs.any fun y => y.eqv a)) else none := by
  unfold oIn oInB
  simp only
  split <;> rfl
@[simp] theorem oIn_tup (a : D) (xs : List D) : oIn a (.tup xs) = if a.pl 9 = true ∧ D.pls 9 xs = true then some (.bl (xs.any fun y => y.eqv a)) else none := by
  unfold oIn oInB
  simp only
  split <;> rfl
@[simp] theorem oNotIn_lst (a : D) (xs : List D) : oNotIn a (.lst xs) = if a.pl 9 = true ∧ D.pls 9 xs = true then some (.bl (!xs.any fun y => y.eqv a)) else none := by
  unfold oNotIn oInB
  simp only
  split <;> rfl
@[simp] theorem oNotIn_tup (a : D) (xs : List D) : oNotIn a (.tup xs) = if a.pl 9 = true ∧ D.pls 9 xs = true then some (.bl (!xs.any fun y => y.eqv a)) else none := by
  unfold oNotIn oInB
  simp only
  split <;> rfl
@[simp] theorem oIn_str (a z : Str) : oIn (.str a) (.str z) = some (.bl (inT a z)) := rfl
@[simp] theorem oNotIn_str (a z : Str) : oNotIn (.str a) (.str z) = some (.bl (!inT a z)) := rfl
theorem inT_sign (c : Nat) (z : Str) : inT ⟨#[c]⟩ z = decide (c ∈ z.cps.toList) := rfl
@[simp] theorem oAll_bls (bs : List Bool) : oAll [.lst (bs.map .bl)] = some (.bl (bs.all id)) := by
  unfold oAll lOf
  simp only [blsOf_map]
  rfl
@[simp] theorem oAll_nil : oAll [.lst []] = some (.bl true) := rfl
@[simp] theorem oSum_ints (bs : List Int) : oSum [.lst (bs.map .int)] = some (.int bs.sum) := by
  unfold oSum lOf
  simp only [intsOf_map]
  rfl
@[simp] theorem oMax2_int (i j : Int) : oMax2 [.int i, .int j] = some (.int (if j > i then j else i)) := rfl
@[simp] theorem oMin2_int (i j : Int) : oMin2 [.int i, .int j] = some (.int (if j < i then j else i)) := rfl
@[simp] theorem oDivmod_int (i j : Int) : oDivmod [.int i, .int j] = if 0 < j ∧ j < 1000000000 then some (.tup [.int (i / j), .int (i % j)]) else none := rfl
@[simp] theorem oStr_int (i : Int) : oStr [.int i] = if i.natAbs < 2 ^ 1000 then some (.str (toString i)) else none := rfl
@[simp] theorem oStr_str (i : Str) : oStr [.str i] = some (.str i) := rfl
/-! ### in place -/
@[simp] theorem mine_own (d : D) : Sl.mine (some (.own d)) = some d := rfl
@[simp] theorem mine_io (d : D) : Sl.mine (some (.io d)) = some d := rfl
@[simp] theorem re_own (d e : D) : Sl.re (some (.own d)) e = .own e := rfl
@[simp] theorem re_io (d e : D) : Sl.re (some (.io d)) e = .io e := rfl
/-- the list at hand -/
def D.lstR : Option D → R (List D)
  | some (.lst xs) => .ok xs
  | _ => .bad
@[simp] theorem lstR_lst (xs : List D) : D.lstR (some (.lst xs)) = .ok xs := rfl
def Md.need (m : Md) (o : SO) : SO := match m with
  | .fr => o
  | _ => .bad
@[simp] theorem need_fr (o : SO) : Md.need .fr o = o := rfl
theorem sApp_own {i : Nat} {f : E} {ρ : Rho} {xs : List D} (h : ρ[i]? = some (.own (.lst xs))) : sApp i f ρ = onE (f ρ) ρ fun d m => Md.need (md d m) (if xs.length < 1000000 then .nx (ρ.set i (.own (.lst (xs ++ [d])))) else .bad) := by
  unfold sApp
  rw [h]
  simp only [Sl.mine, Sl.re]
  rfl
/-! ### loops, comprehensions -/
@[simp] theorem itSeq_eq (f : E) (ρ : Rho) : itSeq f ρ = itK dataL f ρ := rfl
/-- what is walked, by its mode -/
def seqM (d : D) (r : R (List D)) : Md → R (List D)
  | .tr => if d.imm = true then r else .bad
  | _ => r
@[simp] theorem seqM_fr (d : D) (r : R (List D)) : seqM d r .fr = r := rfl
@[simp] theorem seqM_sh (d : D) (r : R (List D)) : seqM d r .sh = r := rfl
@[simp] theorem seqM_tr (d : D) (r : R (List D)) : seqM d r .tr = if d.imm = true then r else .bad := rfl
@[simp] theorem itK_eq (k : D → Option (List D)) (f : E) (ρ : Rho) : itK k f ρ = (f ρ).bind fun a => seqM a.1 (R.opt (k a.1)) a.2 := by
  unfold itK
  cases f ρ with
  | ok a => obtain ⟨d, m⟩ := a; cases m <;> rfl
  | ex e => rfl
  | bad => rfl
@[simp] theorem dataL_lst (xs : List D) : dataL (.lst xs) = some xs := rfl
@[simp] theorem dataL_tup (xs : List D) : dataL (.tup xs) = some xs := rfl
@[simp] theorem dataL_scr (xs : List Int) : dataL (.scr xs) = some (xs.map .int) := rfl
@[simp] theorem dataL_str (s : Str) : dataL (.str s) = some (s.cps.toList.map fun c => .str ⟨#[c]⟩) := rfl
@[simp] theorem revD_lst (xs : List D) : revD (.lst xs) = some xs.reverse := rfl
@[simp] theorem revD_tup (xs : List D) : revD (.tup xs) = some xs.reverse := rfl
@[simp] theorem eLc_eq (it : EI) (st : Tg) (t : T) (f : E) (vs : List Nat) (ρ : Rho) : eLc it st t f vs ρ = (it (frzA ρ)).bind fun ds => (lcL st t f (wipeR (frzA ρ) vs) ds).bind fun y => if y.1.length ≤ 1000000 then .ok (.lst y.1, lcM y.2) else .bad := rfl
@[simp] theorem frzA_nil : frzA [] = [] := rfl
@[simp] theorem frzA_cons_shr (d : D) (ρ : Rho) : frzA (.shr d :: ρ) = .shr d :: frzA ρ := rfl
@[simp] theorem frzA_cons_own (d : D) (ρ : Rho) : frzA (.own d :: ρ) = .shr d :: frzA ρ := rfl
@[simp] theorem frzA_cons_io (d : D) (ρ : Rho) : frzA (.io d :: ρ) = .shr d :: frzA ρ := rfl
@[simp] theorem frzA_cons_nil (ρ : Rho) : frzA (.nil :: ρ) = .nil :: frzA ρ := rfl
@[simp] theorem wipeR_nil (ρ : Rho) : wipeR ρ [] = ρ := rfl
@[simp] theorem wipeR_cons (ρ : Rho) (v : Nat) (vs : List Nat) : wipeR ρ (v :: vs) = (wipeR ρ vs).set v .nil := rfl
@[simp] theorem lcM_fr : lcM .fr = .fr := rfl
@[simp] theorem tYes_eq (ρ : Rho) : tYes' ρ = .ok true := rfl
@[simp] theorem nox_ok' {α : Type} (a : α) : R.nox (.ok a) = .ok a := rfl
/-- a comprehension that keeps all: what each turn gives -/
theorem lcL_map {st : Tg} {f : E} {ρ : Rho} {g : D → D} : ∀ {ds : List D}, (∀ d ∈ ds, ∃ ρ1, st d ρ = some ρ1 ∧ ∃ m, f ρ1 = .ok (g d, m) ∧ md (g d) m = .fr) → lcL st tYes' f ρ ds = .ok (ds.map g, .fr)
  | [], _ => rfl
  | d :: ds, h => by
    obtain ⟨ρ1, h1, m, h2, h3⟩ := h d List.mem_cons_self
    unfold lcL
    rw [h1]
    simp only [tYes_eq, nox_ok', R.bind_ok, if_true, h2, h3, ntr]
    rw [lcL_map fun e he => h e (List.mem_cons_of_mem _ he)]
    rfl
/-- .. that keeps some -/
theorem lcL_filter {st : Tg} {t : T} {f : E} {ρ : Rho} {p : D → Bool} {g : D → D} : ∀ {ds : List D}, (∀ d ∈ ds, ∃ ρ1, st d ρ = some ρ1 ∧ t ρ1 = .ok (p d) ∧ (p d = true → ∃ m, f ρ1 = .ok (g d, m) ∧ md (g d) m = .fr)) → lcL st t f ρ ds = .ok ((ds.filter p).map g, .fr)
  | [], _ => rfl
  | d :: ds, h => by
    obtain ⟨ρ1, h1, h2, h3⟩ := h d List.mem_cons_self
    unfold lcL
    rw [h1]
    simp only [nox_ok', R.bind_ok, h2]
    rw [lcL_filter fun e he => h e (List.mem_cons_of_mem _ he), List.filter_cons]
    cases hp : p d with
    | false => rfl
    | true =>
      obtain ⟨m, h4, h5⟩ := h3 hp
      simp only [h4, nox_ok', R.bind_ok, h5, ntr, if_true]
      rfl
@[simp] theorem sAsgT_eq (st : Tg) (f : E) (ρ : Rho) : sAsgT st f ρ = onE (f ρ) ρ fun d m => match m with
  | .tr => if d.imm = true then SO.st (st d ρ) else .bad
  | _ => SO.st (st d ρ) := by
  unfold sAsgT
  congr 1
@[simp] theorem tgT_tup (n : Nat) (t : Tgs) (ds : List D) (ρ : Rho) : tgT n t (.tup ds) ρ = if ds.length = n then t ds ρ else none := rfl
@[simp] theorem tgsNil_eq (ρ : Rho) : tgsNil [] ρ = some ρ := rfl
@[simp] theorem tgsCons_eq (i : Nat) (t : Tgs) (d : D) (r : List D) (ρ : Rho) : tgsCons i t (d :: r) ρ = (stSl i d .sh ρ).bind (t r) := rfl
@[simp] theorem forL_cons (st : Tg) (f : S) (d : D) (ds : List D) (ρ : Rho) : forL st f (d :: ds) ρ = match st d ρ with
    | none => .bad
    | some ρ1 => match f ρ1 with
      | .nx ρ2 => forL st f ds ρ2
      | .ct ρ2 => forL st f ds ρ2
      | .bk ρ2 => .nx ρ2
      | o => o := rfl
end Dn
set_option Elab.async false
set_option linter.all false
set_option maxRecDepth 100000
set_option maxHeartbeats 2000000
/-! Dn21: raise. -/
namespace Dn
open PySem L2
/-- an error class of the program's own, over ValueError -/
structure ExK (K : PySem.W.Frag) (mg : Str → Option Value) (x : Str) (C : Addr) : Prop where
  g : mg x = some (.ref C)
  x : PySem.W.excIn K C [.type "ValueError", .type "Exception", .type "BaseException", .type "object"] "ValueError.__new__" = true
  k : PySem.W.keepIn K (.ref C) = true
  b : PySem.W.subIn K (.ref C) (.type "BaseException") = some true
  t : PySem.W.typeIn K (.ref C) = some (.type "type")
theorem with1 {p : Prop} {K : PySem.W.Frag} {h : Heap} (_ : K.In h) {mg : Str → Option Value} {x : Str} {C : Addr} (e : ExK K mg x C) (k : ∀ C, ExK K mg x C → p) : p := k C e
abbrev ExAt (G : Cts) (mg : Str → Option Value) (x : Str) (e : Nat) : Prop := ExK G.K mg x (G.cls e)
section
variable {X : Cx} {G : Cts} {W : WX}
theorem px_rs {x m : Str} {e j : Nat} {p p2 pos pos2 : Pos} (hc : X.calm = true) (tk : Takes X W) (c : ExAt G X.mg x e) (hg : Gl X x) (hK : X.K = G.K := by rfl) (hdb : (x == ("__debug__" : Str)) = false := by decide) :
    PS X (.Raise (some (.Call (.Name x p) [.Constant (.str m) j p2] [] pos)) none pos2) (tS G W (sRaise e)) :=
  px_raise (ps_raise hc tk (pmk_own PySem.F.excBase_ValueError (by rw [hK]; exact c.x) c.g (by rw [hK]; exact c.k) (raises_own (by rw [hK]; exact c.b) (by rw [hK]; exact c.t)) hg hdb))
end
end Dn
set_option Elab.async false
set_option linter.all false
set_option maxRecDepth 100000
set_option maxHeartbeats 2000000
/-! Dn22: index of a text; x += e. -/
namespace Dn
open PySem L2
section
variable {X : Cx} {G : Cts} {W : WX}
def oIndexS := mS1 (fun a b => (Txt.index0 a b).isSome) fun a b => .int (((Txt.index0 a b).getD 0 : Nat) : Int)
theorem px_idxS {e : Expr} {f : E} {g : EA} (h : PE X e (tBMS X.K "str" (rIndexX W) (tE G W f) (tA G W g))) (hK : X.K = G.K := by rfl) : PE X e (tE G W (eMet "str" oIndexS f g)) := by
  refine PE.of h fun σ H Q ⟨fp, fv, ρ, I, q⟩ => ?_
  refine tE.of_bind (y := yE G W fp σ H Q) I q (fun e h => h) (fun h => h) fun d m q v H1 e1 v1 => ?_
  by_cases t : d.isT "str" = true
  · rw [if_pos t] at q
    have I1 := I.same e1
    rw [hK]
    refine ⟨isT_ty t v1.tr, ?_⟩
    refine tA.of_bind (y := yE G W fp σ H Q) I1 q (fun e h H' e' => h H' (e1.trans e')) (fun h => h) fun ds m2 q vs H2 e2 v2 => ?_
    cases z : oIndexS d ds with
    | none =>
      simp only [z] at q
      exact q.elim
    | some c =>
      simp only [z] at q
      obtain ⟨a, b, rfl, rfl, p, rfl⟩ := mS1_some z
      obtain rfl : v = .str a := v1.tr
      have hv := strOne v2.tr
      subst hv
      refine ⟨a, b, rfl, rfl, fun k hk => ?_, fun hn => ?_⟩
      · rw [hk] at q
        exact q _ _ (e1.trans e2) Fresh.int
      · rw [hn] at p
        cases p
  · rw [if_neg t] at q
    exact q.elim
/-! ### x += e -/
theorem px_aug {st : Stmt} {i : Nat} {f : E} {op : D → D → Option D} {ti : TIp} (ho : Op2 G ti op) (h : PS X st (tAug i (tE G W f) ti)) : PS X st (tS G W (sAsg i (eBin op (eVar i) f))) := by
  refine PS.of h fun D' σ H ⟨H0, io, fp, fv, ρ, I, q⟩ => ?_
  unfold sAsg eBin eVar at q
  have key : ∀ (d : D) (m : Md) (v : V), Rep G Nav H d v → σ[i]? = some (some v) → SK G W H0 io fv D' (onE ((f ρ).bind fun b => (R.opt (op d b.1)).bind fun c => .ok (c, Md.fr)) ρ fun d m => match stSl i d (md d m) ρ with | some ρ' => .nx ρ' | none => .bad) → tAug i (tE G W f) ti D' σ H := fun d m v rv hv q => by
    refine ⟨v, hv, ?_⟩
    refine ⟨fp, fv, ρ, I.l, ?_⟩
    cases w : f ρ with
    | ex e =>
      rw [w] at q
      exact fun H' e' => q σ H' fp (I.same e')
    | bad =>
      rw [w] at q
      exact q.elim
    | ok b =>
      obtain ⟨b, mb⟩ := b
      rw [w] at q
      intro u H1 e1 v1
      cases w2 : op d b with
      | none =>
        simp only [R.bind, w2] at q
        exact q.elim
      | some c =>
        simp only [R.bind, w2, R.opt] at q
        refine ho v u d b H1 (rv.same e1) v1.tr c w2 _ fun z H2 e2 fr => ?_
        have fr' : VOk G fp H H2 .fr c z := Fresh.back e1 fr
        have mdf : md c .fr = .fr := by unfold md; split <;> rfl
        simp only [onE, mdf] at q
        cases w3 : stSl i c .fr ρ with
        | none =>
          rw [w3] at q
          exact q.elim
        | some ρ' =>
          rw [w3] at q
          obtain ⟨fp', J⟩ := I.store (e1.trans e2) fr' w3
          exact q _ _ _ J
  cases e : ρ[i]? with
  | none =>
    rw [e] at q
    exact q.elim
  | some s =>
    rw [e] at q
    have r := I.l.sl i s e
    cases s with
    | nil => exact q.elim
    | exc _ => exact q.elim
    | shr d =>
      obtain ⟨v, e1, r⟩ := r
      exact key d .sh v r.tr e1 q
    | own d =>
      obtain ⟨v, e1, r⟩ := r
      exact key d .tr v (OT.rep d v _ (fun _ _ z => z) r) e1 q
    | io d =>
      obtain ⟨v, e1, _, r⟩ := r
      exact key d .tr v (OT.rep d v _ (fun _ _ z => z) r) e1 q
theorem PIp.or {o : Operator} {r s : TIp} (h : PIp X o r) (k : PIp X o s) : PIp X o (fun x y H Q => r x y H Q ∨ s x y H Q) := fun pins t σ H x y v u Q I rx ry hw => hw.elim (h pins t σ H x y v u Q I rx ry) (k pins t σ H x y v u Q I rx ry)
/-- numbers, texts -/
def oAddIS : D → D → Option D := fun a b => match a with
  | .int i => (match b with
    | .int j => some (.int (i + j))
    | _ => none)
  | .str x => (match b with
    | .str y => if x.length + y.length ≤ 1000000 then some (.str (x ++ y)) else none
    | _ => none)
  | _ => none
def rAddIS : TIp := fun x y H Q => ipI (fun i j => i + j) x y H Q ∨ L2.rAddS x y H Q
theorem ip_addIS : PIp X .Add rAddIS := PIp.or ip_add in_addS
theorem op2_addIS : Op2 G rAddIS oAddIS := by
  intro x y d e H hx hy c hc Q k
  unfold oAddIS at hc
  split at hc
  · rename_i i
    obtain rfl : x = .int i := hx
    split at hc
    · rename_i j
      obtain rfl : y = .int j := hy
      cases hc
      exact .inl ⟨i, j, rfl, rfl, k _ H (Same.refl H) Fresh.int⟩
    · cases hc
  · rename_i i
    obtain rfl : x = .str i := hx
    split at hc
    · rename_i j
      obtain rfl : y = .str j := hy
      split at hc
      · rename_i hl
        cases hc
        exact .inr ⟨i, j, rfl, rfl, line_big hl, k _ H (Same.refl H) Fresh.str⟩
      · cases hc
    · cases hc
  · cases hc
theorem ip_or : PIp X .BitOr (rI0 fun i j => .int (Builtin.bitOr i j)) := fun pins s σ H x y v u Q I rx ry h => iop_or pins s σ H x y v u Q I rx ry h
@[simp] theorem oAddIS_int (i j : Int) : oAddIS (.int i) (.int j) = some (.int (i + j)) := rfl
@[simp] theorem oAddIS_str (x y : Str) : oAddIS (.str x) (.str y) = if x.length + y.length ≤ 1000000 then some (.str (x ++ y)) else none := rfl
end
end Dn
set_option Elab.async false
set_option linter.all false
set_option maxRecDepth 100000
set_option maxHeartbeats 2000000
/-! Dn23: while loops reckoned. -/
namespace Dn
open PySem L2
theorem whL_more {t : T} {f : S} : ∀ {n : Nat} {ρ : Rho} {o : SO}, whL t f n ρ = o → o ≠ .bad → ∀ k, whL t f (n + k) ρ = o
  | 0, ρ, o, h, hb, k => absurd h.symm hb
  | n + 1, ρ, o, h, hb, k => by
    rw [show n + 1 + k = (n + k) + 1 by omega]
    unfold whL at h ⊢
    cases z : t ρ with
    | ex e =>
      rw [z] at h
      exact h
    | bad =>
      rw [z] at h
      exact h
    | ok b =>
      rw [z] at h
      cases b with
      | false => exact h
      | true =>
        simp only [onT, if_true] at h ⊢
        cases z2 : f ρ with
        | nx ρ2 =>
          simp only [z2] at h
          exact whL_more h hb k
        | ct ρ2 =>
          simp only [z2] at h
          exact whL_more h hb k
        | bk ρ2 =>
          simp only [z2] at h
          exact h
        | rt d ρ2 =>
          simp only [z2] at h
          exact h
        | ex e ρ2 =>
          simp only [z2] at h
          exact h
        | bad =>
          simp only [z2] at h
          exact h
theorem sWh_of {t : T} {f : S} {ρ : Rho} {o : SO} (n : Nat) (h : whL t f n ρ = o) (hb : o ≠ .bad := by exact fun z => by cases z) (hn : n ≤ 1000000 := by decide) : sWh t f ρ = o := by
  have := whL_more h hb (1000000 - n)
  rw [show n + (1000000 - n) = 1000000 by omega] at this
  exact this
theorem whL_t {t : T} {f : S} {n : Nat} {ρ ρ1 : Rho} (h : t ρ = .ok true) (h1 : f ρ = .nx ρ1) : whL t f (n + 1) ρ = whL t f n ρ1 := by
  conv => lhs; unfold whL
  rw [h]
  simp only [onT, if_true, h1]
theorem whL_f {t : T} {f : S} {n : Nat} {ρ : Rho} (h : t ρ = .ok false) : whL t f (n + 1) ρ = .nx ρ := by
  conv => lhs; unfold whL
  rw [h]
  rfl
theorem whL_rt {t : T} {f : S} {n : Nat} {ρ ρ1 : Rho} {d : D} (h : t ρ = .ok true) (h1 : f ρ = .rt d ρ1) : whL t f (n + 1) ρ = .rt d ρ1 := by
  conv => lhs; unfold whL
  rw [h]
  simp only [onT, if_true, h1]
@[simp] theorem ix_str' (z : Str) (i : Int) : ixD (.str z) (.int i) = if z.length ≤ 1000000 then (atI z.cps.toList i).map fun c => .str ⟨#[c]⟩ else none := rfl
/-- a text by its signs -/
def tx (l : List Nat) : Str := ⟨l.toArray⟩
@[simp] theorem tx_app (a b : List Nat) : tx a ++ tx b = tx (a ++ b) := by
  show Str.append (tx a) (tx b) = _
  unfold Str.append tx
  simp
@[simp] theorem tx_len (a : List Nat) : (tx a).length = a.length := by unfold tx Str.length; simp
@[simp] theorem tx_cps (a : List Nat) : (tx a).cps.toList = a := by unfold tx; simp
theorem tx_eta (s : Str) : tx s.cps.toList = s := by unfold tx; cases s; simp
theorem tx_one (c : Nat) : (⟨#[c]⟩ : Str) = tx [c] := rfl
theorem tx_inj {a b : List Nat} (h : tx a = tx b) : a = b := by
  have := congrArg (fun s : Str => s.cps.toList) h
  simpa using this
@[simp] theorem tx_beq (a b : List Nat) : (tx a == tx b) = (a == b) := by
  by_cases h : a = b
  · subst h
    simp
  · have : tx a ≠ tx b := fun z => h (tx_inj z)
    rw [beq_eq_false_iff_ne.mpr this, beq_eq_false_iff_ne.mpr h]
theorem lit_of {s : String} {l : List Nat} (h : s.toList.map Char.toNat = l) : Str.ofString s = tx l := by rw [Str.ofString_eq_toList, h]; rfl
end Dn
set_option Elab.async false
set_option linter.all false
set_option maxRecDepth 100000
set_option maxHeartbeats 2000000
/-! Dn24: a + b, what the parts are kept. -/
namespace Dn
open PySem L2
def oAddX (a b : D) : Option D := match a with
  | .int i => (match b with
    | .int j => some (.int (i + j))
    | _ => none)
  | .str x => (match b with
    | .str y => if x.length + y.length ≤ 1000000 then some (.str (x ++ y)) else none
    | _ => none)
  | .lst xs => (match b with
    | .lst ys => if xs.length + ys.length ≤ 1000000 then some (.lst (xs ++ ys)) else none
    | _ => none)
  | .tup xs => (match b with
    | .tup ys => if xs.length + ys.length ≤ 1000000 then some (.tup (xs ++ ys)) else none
    | _ => none)
  | _ => none
def adM (c : D) (m n : Md) : Md := if c.flat = true then .fr else Md.jn m n
/-- what stands in it is nobody's -/
def flp (d : D) (m : Md) : Md := if d.flat = true then .fr else m
def eAdd (f g : E) : E := fun ρ => (f ρ).bind fun a => (g ρ).bind fun b => (R.opt (oAddX a.1 b.1)).bind fun c => .ok (c, adM c (flp a.1 a.2) (flp b.1 b.2))
def rAddX (K : PySem.W.Frag) : R2 := fun x y H Q => rI0 (fun i j => .int (i + j)) x y H Q ∨ (fun x y H Q => rAddS x y H Q ∨ (fun x y H Q => rCat x y H Q ∨ rCatA K x y H Q) x y H Q) x y H Q
section
variable {X : Cx} {G : Cts} {W : WX}
theorem op_addX : OpR X (binaryOp .Add) (rAddX X.K) := op_add.or (OpR.or (r := rAddS) op_add_str (op_cat.or op_catA))
/-- the parts of two lists, one behind the other -/
theorem VOk.parts {fp : Nat → List Addr} {fv : Nat → Option V} {σ : L2.St} {ρ : Rho} {H H1 H2 : Hp} {m n : Md} {xs ys : List D} {vs ws : List V} (I : LSR G fp fv σ H ρ) (e1 : Same H H1) (e2 : Same H1 H2) (h : VsOk G fp H H1 m xs vs) (k : VsOk G fp H1 H2 n ys ws) : VsOk G fp H H2 (Md.jn m n) (xs ++ ys) (vs ++ ws) := by
  have own1 : ∀ a, Own fp a → ∃ o, H1 a = some o := fun a ⟨i, z⟩ => let ⟨o, q⟩ := I.al i a z; ⟨o, e1 a o q⟩
  have own0 : ∀ a, Own fp a → ∃ o, H a = some o := fun a ⟨i, z⟩ => I.al i a z
  have tr : Reps G Nav H2 xs vs := (VsOk.tr h).same e2
  cases m with
  | fr =>
    obtain ⟨f, a1, a2, a3⟩ := h
    cases n with
    | fr =>
      obtain ⟨g, b1, b2, b3⟩ := k
      refine ⟨f ++ g, OTs.append (OTs.same e2 a1) b1, List.nodup_append.mpr ⟨a2, b2, fun x hx y hy z => ?_⟩, fun a ha => ?_⟩
      · subst z
        obtain ⟨o, q, _⟩ := OTs.there xs vs f a1 x hx
        rw [b3 x hy] at q
        cases q
      · rcases List.mem_append.mp ha with z | z
        · exact a3 a z
        · exact e1.free (b3 a z)
    | sh => exact Reps.append (Reps.same e2 (Freshs.rep ⟨f, a1, a2, a3⟩ own0)) k
    | tr => exact Reps.append tr k
  | sh =>
    cases n with
    | fr => exact Reps.append (Reps.same e2 h) (Freshs.rep k own1)
    | sh => exact Reps.append (Reps.same e2 h) k
    | tr => exact Reps.append tr k
  | tr => exact Reps.append tr (VsOk.tr k)
/-- a list's parts, as the list is kept -/
theorem VOk.ofL {fp : Nat → List Addr} {H H1 : Hp} {m : Md} {xs : List D} {v : V} (h : VOk G fp H H1 m (.lst xs) v) : ∃ a vs, v = .ref a ∧ H1 a = some (.lst vs) ∧ VsOk G fp H H1 m xs vs := by
  cases m with
  | fr =>
    obtain ⟨f, ⟨a, vs, f', rfl, rfl, s, r⟩, n, z⟩ := h
    exact ⟨a, vs, rfl, s, f', r, (List.nodup_cons.mp n).2, fun b hb => z b (List.mem_cons_of_mem _ hb)⟩
  | sh =>
    obtain ⟨a, vs, rfl, _, s, r⟩ := h
    exact ⟨a, vs, rfl, s, r⟩
  | tr =>
    obtain ⟨a, vs, rfl, _, s, r⟩ := h
    exact ⟨a, vs, rfl, s, r⟩
theorem VOk.ofT {fp : Nat → List Addr} {H H1 : Hp} {m : Md} {xs : List D} {v : V} (h : VOk G fp H H1 m (.tup xs) v) : ∃ a vs, v = .ref a ∧ SqT G.K H1 a vs ∧ VsOk G fp H H1 m xs vs := by
  cases m with
  | fr =>
    obtain ⟨f, ⟨a, vs, rfl, s, r⟩, n, z⟩ := h
    exact ⟨a, vs, rfl, s, f, r, n, z⟩
  | sh =>
    obtain ⟨a, vs, rfl, s, r⟩ := h
    exact ⟨a, vs, rfl, s, r⟩
  | tr =>
    obtain ⟨a, vs, rfl, s, r⟩ := h
    exact ⟨a, vs, rfl, s, r⟩
theorem VsOk.same {fp : Nat → List Addr} {H H1 H2 : Hp} {m : Md} {ds : List D} {vs : List V} (e : Same H1 H2) (h : VsOk G fp H H1 m ds vs) : VsOk G fp H H2 m ds vs := by
  cases m with
  | fr =>
    obtain ⟨f, a, b, c⟩ := h
    exact ⟨f, OTs.same e a, b, c⟩
  | sh => exact Reps.same e h
  | tr => exact Reps.same e h
theorem VsOk.flat {fp : Nat → List Addr} {H H1 : Hp} {m : Md} {ds : List D} {vs : List V} (i : D.imms ds = true) (h : VsOk G fp H H1 m ds vs) : VsOk G fp H H1 .fr ds vs := Freshs.of_imms i h.tr
theorem VsOk.adL {fp : Nat → List Addr} {H H1 : Hp} {m n : Md} {ds : List D} {vs : List V} (h : VsOk G fp H H1 (Md.jn m n) ds vs) : VsOk G fp H H1 (adM (.lst ds) m n) ds vs := by
  unfold adM
  by_cases i : D.flat (.lst ds) = true
  · rw [if_pos i]
    exact h.flat i
  · rw [if_neg i]
    exact h
theorem VsOk.adT {fp : Nat → List Addr} {H H1 : Hp} {m n : Md} {ds : List D} {vs : List V} (h : VsOk G fp H H1 (Md.jn m n) ds vs) : VsOk G fp H H1 (adM (.tup ds) m n) ds vs := by
  unfold adM
  by_cases i : D.flat (.tup ds) = true
  · rw [if_pos i]
    exact h.flat i
  · rw [if_neg i]
    exact h
theorem VsOk.tupAt {fp : Nat → List Addr} {H H1 : Hp} {m : Md} {ds : List D} {vs : List V} {a : Addr} (h : VsOk G fp H H1 m ds vs) (s : SqT G.K H1 a vs) : VOk G fp H H1 m (.tup ds) (.ref a) := by
  cases m with
  | fr =>
    obtain ⟨f, o, n, z⟩ := h
    exact ⟨f, ⟨a, vs, rfl, s, o⟩, n, z⟩
  | sh => exact ⟨a, vs, rfl, s, h⟩
  | tr => exact ⟨a, vs, rfl, s, h⟩
theorem VsOk.flL {fp : Nat → List Addr} {H H1 : Hp} {m : Md} {xs : List D} {vs : List V} (h : VsOk G fp H H1 m xs vs) : VsOk G fp H H1 (flp (.lst xs) m) xs vs := by
  unfold flp
  split
  · rename_i i
    exact Freshs.of_imms i (VsOk.tr h)
  · exact h
theorem VsOk.flT {fp : Nat → List Addr} {H H1 : Hp} {m : Md} {xs : List D} {vs : List V} (h : VsOk G fp H H1 m xs vs) : VsOk G fp H H1 (flp (.tup xs) m) xs vs := by
  unfold flp
  split
  · rename_i i
    exact Freshs.of_imms i (VsOk.tr h)
  · exact h
theorem px_add {a b : Expr} {pos : Pos} {f g : E} (ha : PE X a (tE G W f)) (hb : PE X b (tE G W g)) (hK : X.K = G.K := by rfl) : PE X (.BinOp a .Add b pos) (tE G W (eAdd f g)) := by
  refine PE.of (pe_op op_addX ha hb) fun σ H Q ⟨fp, fv, ρ, I, q⟩ => ?_
  unfold eAdd at q
  refine tE.of_bind (y := yE G W fp σ H Q) I q (fun e h => h) (fun h => h) fun d m q v H1 e1 v1 => ?_
  have I1 := I.same e1
  refine tE.of_bind (y := yE G W fp σ H Q) I1 q (fun e h H' e' => h H' (e1.trans e')) (fun h => h) fun e n q u H2 e2 v2 => ?_
  cases z : oAddX d e with
  | none =>
    simp only [z] at q
    exact q.elim
  | some c =>
    simp only [z] at q
    have q : ∀ v H', Same H H' → VOk G fp H H' (adM c (flp d m) (flp e n)) c v → Q v H' := q
    have e12 := e1.trans e2
    rw [hK]
    cases d with
    | int i =>
      cases e with
      | int j =>
        cases z
        obtain rfl : v = .int i := v1.tr
        obtain rfl : u = .int j := v2.tr
        exact .inl ⟨i, j, rfl, rfl, q _ _ e12 (by rw [show adM (.int (i + j)) _ _ = .fr from if_pos rfl]; exact Fresh.int)⟩
      | _ => cases z
    | str i =>
      cases e with
      | str j =>
        obtain rfl : v = .str i := v1.tr
        obtain rfl : u = .str j := v2.tr
        have z : (if i.length + j.length ≤ 1000000 then some (D.str (i ++ j)) else none) = some c := z
        by_cases hl : i.length + j.length ≤ 1000000
        · rw [if_pos hl] at z
          cases z
          exact .inr (.inl ⟨i, j, rfl, rfl, line_big hl, q _ _ e12 (by rw [show adM (.str (i ++ j)) _ _ = .fr from if_pos rfl]; exact Fresh.str)⟩)
        · rw [if_neg hl] at z
          cases z
      | _ => cases z
    | lst xs =>
      cases e with
      | lst ys =>
        have z : (if xs.length + ys.length ≤ 1000000 then some (D.lst (xs ++ ys)) else none) = some c := z
        by_cases hl : xs.length + ys.length ≤ 1000000
        · rw [if_pos hl] at z
          cases z
          obtain ⟨a, vs, rfl, s1, p1⟩ := v1.ofL
          obtain ⟨b, ws, rfl, s2, p2⟩ := v2.ofL
          have pp := (VOk.parts I e1 e2 p1.flL p2.flL).adL
          refine .inr (.inr (.inl ⟨a, b, vs, ws, rfl, rfl, e2 _ _ s1, s2, ?_, fun p hp => q _ _ (e12.trans (same_new hp)) (VsOk.lst I e12 pp hp)⟩))
          rw [← p1.length, ← p2.length]
          exact line_big hl
        · rw [if_neg hl] at z
          cases z
      | _ => cases z
    | tup xs =>
      cases e with
      | tup ys =>
        have z : (if xs.length + ys.length ≤ 1000000 then some (D.tup (xs ++ ys)) else none) = some c := z
        by_cases hl : xs.length + ys.length ≤ 1000000
        · rw [if_pos hl] at z
          cases z
          obtain ⟨a, vs, rfl, s1, p1⟩ := v1.ofT
          obtain ⟨b, ws, rfl, s2, p2⟩ := v2.ofT
          have pp := (VOk.parts I e1 e2 p1.flT p2.flT).adT
          refine .inr (.inr (.inr ⟨a, b, vs, ws, rfl, rfl, (tk_same e2).1 _ _ s1, s2, ?_, fun h0 => ?_, fun h0 h1 => ?_, fun _ _ p hp => ?_⟩))
          · rw [← p1.length, ← p2.length]
            exact line_big hl
          · subst h0
            exact q _ _ e12 (VsOk.tupAt pp s2)
          · subst h1
            rw [List.append_nil] at pp
            exact q _ _ e12 (VsOk.tupAt pp ((tk_same e2).1 _ _ s1))
          · exact q _ _ (e12.trans (same_new hp)) (VsOk.tup pp hp)
        · rw [if_neg hl] at z
          cases z
      | _ => cases z
    | _ => cases z
@[simp] theorem eAdd_eq (f g : E) (ρ : Rho) : eAdd f g ρ = (f ρ).bind fun a => (g ρ).bind fun b => (R.opt (oAddX a.1 b.1)).bind fun c => .ok (c, adM c (flp a.1 a.2) (flp b.1 b.2)) := rfl
@[simp] theorem flp_fr (d : D) : flp d .fr = .fr := by unfold flp; split <;> rfl
@[simp] theorem flp_lst (xs : List D) (m : Md) : flp (.lst xs) m = if D.imms xs = true then .fr else m := rfl
@[simp] theorem flp_tup (xs : List D) (m : Md) : flp (.tup xs) m = if D.imms xs = true then .fr else m := rfl
@[simp] theorem flp_int (x : Int) (m : Md) : flp (.int x) m = .fr := rfl
@[simp] theorem flp_str (x : Str) (m : Md) : flp (.str x) m = .fr := rfl
@[simp] theorem oAddX_int (i j : Int) : oAddX (.int i) (.int j) = some (.int (i + j)) := rfl
@[simp] theorem oAddX_str (x y : Str) : oAddX (.str x) (.str y) = if x.length + y.length ≤ 1000000 then some (.str (x ++ y)) else none := rfl
@[simp] theorem oAddX_lst (x y : List D) : oAddX (.lst x) (.lst y) = if x.length + y.length ≤ 1000000 then some (.lst (x ++ y)) else none := rfl
@[simp] theorem oAddX_tup (x y : List D) : oAddX (.tup x) (.tup y) = if x.length + y.length ≤ 1000000 then some (.tup (x ++ y)) else none := rfl
@[simp] theorem adM_int (i : Int) (m n : Md) : adM (.int i) m n = .fr := rfl
@[simp] theorem adM_str (i : Str) (m n : Md) : adM (.str i) m n = .fr := rfl
@[simp] theorem adM_lst (i : List D) (m n : Md) : adM (.lst i) m n = if D.imms i = true then .fr else Md.jn m n := rfl
@[simp] theorem adM_tup (i : List D) (m n : Md) : adM (.tup i) m n = if D.imms i = true then .fr else Md.jn m n := rfl
end
end Dn
set_option Elab.async false
set_option linter.all false
set_option maxRecDepth 100000
set_option maxHeartbeats 2000000
/-! Dn25: dicts; x[i] = e. -/
namespace Dn
open PySem L2
section
variable {X : Cx} {G : Cts} {W : WX}
/-! ### displays -/
def eDct0 : E := fun _ => .ok (.dct [] [], .fr)
theorem px_dct0 {pos : Pos} : PE X (.Dict [] [] pos) (tE G W eDct0) := PE.of pe_dnewK fun σ H Q ⟨fp, fv, ρ, I, q⟩ p hp =>
  q _ _ (same_new hp) ⟨[p], ⟨p, [], [], rfl, rfl, upd_same, rfl, rfl, rfl⟩, List.nodup_cons.mpr ⟨List.not_mem_nil, List.nodup_nil⟩, fun a ha => by rw [List.mem_singleton.mp ha]; exact hp⟩
def dctL : List (Key × E) → EA
  | [] => eNil
  | (_, f) :: r => eCons f (dctL r)
def eDct (kfs : List (Key × E)) : E := fun ρ => (dctL kfs ρ).bind fun a => if (kfs.map (·.1)).Nodup ∧ kfs.length ≤ 15 then (match a.2 with | .fr => .ok (.dct (kfs.map (·.1)) a.1, .fr) | _ => .bad) else .bad
theorem tA.cons {f : E} {g : EA} {σ : L2.St} {H : Hp} {P : List V → Hp → Prop} (h : tA G W (eCons f g) σ H P) : tE G W f σ H fun v H1 => tA G W g σ H1 fun vs H2 => P (v :: vs) H2 := by
  obtain ⟨fp, fv, ρ, I, q⟩ := h
  refine tE.of_bind (y := yA G W fp σ H P) I q (fun e h => h) (fun h => h) fun d m q v H1 e1 v1 => ?_
  refine tA.of_bind (y := yA G W fp σ H P) (I.same e1) q (fun e h H' e' => h H' (e1.trans e')) (fun h => h) fun ds n q vs H2 e2 v2 => ?_
  exact q (v :: vs) H2 (e1.trans e2) (VsOk.cons I e1 e2 v1.nrm v2)
def dctT (G : Cts) (W : WX) (kfs : List (Key × E)) : List (TE × TE) := kfs.map fun kf => (tC (kV kf.1), tE G W kf.2)
theorem tA.pairs : ∀ {kfs : List (Key × E)} {σ : L2.St} {H : Hp} {P : List (V × V) → Hp → Prop}, tA G W (dctL kfs) σ H (fun vs H' => P (((kfs.map (·.1)).zip vs).map fun kv => (kV kv.1, kv.2)) H') → tPairs (dctT G W kfs) σ H P
  | [], σ, H, P, h => by
    obtain ⟨fp, fv, ρ, I, q⟩ := h
    exact q [] H (Same.refl H) ⟨[], ⟨rfl, rfl⟩, List.nodup_nil, fun _ z => by cases z⟩
  | (k, f) :: r, σ, H, P, h => by
    have h' := tA.cons h
    obtain ⟨fp, fv, ρ, I, q⟩ := h'
    show tE G W f σ H fun y H2 => tPairs (dctT G W r) σ H2 fun ps H3 => P ((kV k, y) :: ps) H3
    refine ⟨fp, fv, ρ, I, ?_⟩
    cases z : f ρ with
    | ex e =>
      rw [z] at q
      exact q
    | bad =>
      rw [z] at q
      exact q
    | ok a =>
      rw [z] at q
      exact fun v H1 e1 v1 => tA.pairs (kfs := r) (P := fun ps H3 => P ((kV k, v) :: ps) H3) (q v H1 e1 v1)
theorem putK_new {κ : Type} [DecidableEq κ] {kvs : List (κ × V)} {k : κ} {v : V} (h : k ∉ kvs.map (·.1)) : putK kvs k v = kvs ++ [(k, v)] := by
  unfold putK
  rw [if_neg]
  intro z
  obtain ⟨kv, h1, h2⟩ := List.any_eq_true.mp z
  exact h (List.mem_map.mpr ⟨kv, h1, of_decide_eq_true h2⟩)
theorem mergeK_new : ∀ {more kvs : List (Key × V)}, ((kvs ++ more).map (·.1)).Nodup → mergeK kvs more = kvs ++ more
  | [], kvs, _ => by
    rw [List.append_nil]
    rfl
  | kv :: more, kvs, h => by
    show mergeK (putK kvs kv.1 kv.2) more = _
    have n : kv.1 ∉ kvs.map (·.1) := fun z => by
      rw [List.map_append, List.map_cons] at h
      exact (List.nodup_append.mp h).2.2 _ z _ List.mem_cons_self rfl
    rw [putK_new n, mergeK_new (by rw [List.append_assoc]; exact h), List.append_assoc]
    rfl
theorem zip_fst {α β : Type} : ∀ {ks : List α} {vs : List β}, ks.length = vs.length → (ks.zip vs).map (·.1) = ks
  | [], [], _ => rfl
  | k :: ks, v :: vs, h => by
    rw [List.zip_cons_cons, List.map_cons, zip_fst (by simpa using h)]
  | [], v :: vs, h => by cases h
  | k :: ks, [], h => by cases h
theorem zip_snd {α β : Type} : ∀ {ks : List α} {vs : List β}, ks.length = vs.length → (ks.zip vs).map (·.2) = vs
  | [], [], _ => rfl
  | k :: ks, v :: vs, h => by
    rw [List.zip_cons_cons, List.map_cons, zip_snd (by simpa using h)]
  | [], v :: vs, h => by cases h
  | k :: ks, [], h => by cases h
theorem dctL_len : ∀ {kfs : List (Key × E)} {ρ : Rho} {ds : List D} {m : Md}, dctL kfs ρ = .ok (ds, m) → ds.length = kfs.length
  | [], ρ, ds, m, h => by
    cases h
    rfl
  | (k, f) :: r, ρ, ds, m, h => by
    unfold dctL eCons at h
    cases z : f ρ with
    | ex e =>
      rw [z] at h
      cases h
    | bad =>
      rw [z] at h
      cases h
    | ok a =>
      rw [z] at h
      cases z2 : dctL r ρ with
      | ex e =>
        simp only [R.bind, z2] at h
        cases h
      | bad =>
        simp only [R.bind, z2] at h
        cases h
      | ok b =>
        simp only [R.bind, z2] at h
        cases h
        rw [List.length_cons, List.length_cons, dctL_len z2]
theorem px_dct {keys : List (Option Expr)} {values : List Expr} {pos : Pos} {kfs : List (Key × E)} (h : PPs X pos keys values (dctT G W kfs)) (hall : keys.all (·.isSome) = true := by rfl) (hl : keys.length = values.length := by rfl) (h0 : keys ≠ [] := by exact fun z => by cases z) (h15 : keys.length ≤ 15 := by decide) :
    PE X (.Dict keys values pos) (tE G W (eDct kfs)) := by
  refine PE.of (pe_disp h hall hl h0 h15) fun σ H Q ⟨fp, fv, ρ, I, q⟩ p hp => tA.pairs ?_
  have I1 := I.same (same_new (o := .dK []) hp)
  unfold eDct at q
  refine ⟨fp, fv, ρ, I1, ?_⟩
  cases z : dctL kfs ρ with
  | ex e =>
    rw [z] at q
    exact fun H' e' => q H' ((same_new hp).trans e')
  | bad =>
    rw [z] at q
    exact q
  | ok a =>
    obtain ⟨ds, m⟩ := a
    rw [z] at q
    intro vs H2 e2 v2
    have hlen := dctL_len z
    have hp2 := e2 _ _ upd_same
    by_cases c : (kfs.map (·.1)).Nodup ∧ kfs.length ≤ 15
    · simp only [R.bind, c, if_true] at q
      have hv : (kfs.map (·.1)).length = vs.length := by rw [List.length_map, ← hlen, v2.length]
      refine ⟨hp2, (kfs.map (·.1)).zip vs, rfl, ?_, ?_⟩
      · rw [List.length_zip, ← hv, Nat.min_self, List.length_map]
        exact c.2
      · have mk : mergeK [] ((kfs.map (·.1)).zip vs) = (kfs.map (·.1)).zip vs := mergeK_new (kvs := []) (by rw [List.nil_append, zip_fst hv]; exact c.1)
        rw [mk]
        have e12 : Same H (upd H2 p (.dK ((kfs.map (·.1)).zip vs))) := fun a o ha => by
          rw [upd_ne (ne_of_none ha hp)]
          exact e2 a o (by rw [upd_ne (ne_of_none ha hp)]; exact ha)
        have tk := tk_upd (G := G) (o' := .dK ((kfs.map (·.1)).zip vs)) hp2 trivial
        cases m with
        | fr =>
          refine q _ _ e12 ?_
          obtain ⟨f, a1, a2, a3⟩ := v2
          have pf : p ∉ f := fun z => by
            have := a3 p z
            rw [upd_same] at this
            cases this
          refine ⟨p :: f, ⟨p, _, f, rfl, rfl, upd_same, zip_fst hv, ?_⟩, List.nodup_cons.mpr ⟨pf, a2⟩, fun b hb => ?_⟩
          · rw [zip_snd hv]
            exact OTs.ext tk ds vs f (fun b hb => upd_ne fun z => pf (z ▸ hb)) a1
          · rcases List.mem_cons.mp hb with rfl | hb
            · exact hp
            · exact (same_new (o := .dK []) hp).free (a3 b hb)
        | sh => exact q.elim
        | tr => exact q.elim
    · simp only [R.bind, c, if_false] at q
end
end Dn
set_option Elab.async false
set_option linter.all false
set_option maxRecDepth 100000
set_option maxHeartbeats 2000000
/-! Dn26: in a dict; d.get; x[i] = e. -/
namespace Dn
open PySem L2
section
variable {X : Cx} {G : Cts} {W : WX}
/-! ### in, with dicts -/
def hasK (ks : List Key) (k : Key) : Bool := ks.any fun j => decide (j = k)
def oInBD (a b : D) : Option Bool := match b with
  | .dct ks _ => a.key.map fun k => hasK ks k
  | b => oInB a b
def oInX : D → D → Option D := fun a b => (oInBD a b).map .bl
def oNotInX : D → D → Option D := fun a b => (oInBD a b).map fun c => .bl !c
theorem valV_mem {k : Key} : ∀ {kvs : List (Key × V)}, (valV kvs k).isSome = hasK (kvs.map (·.1)) k
  | [] => rfl
  | (j, v) :: kvs => by
    have ih := valV_mem (k := k) (kvs := kvs)
    show _ = (decide (j = k) || hasK (kvs.map (·.1)) k)
    by_cases h : j = k
    · subst h
      rw [valV_pos rfl]
      simp
    · rw [valV_neg h, ih, decide_eq_false h]
      rfl
theorem tE.inG {f g : E} {neg : Bool → Bool} {op op' : D → D → Option D} {t : TE → TE → TE} {σ : L2.St} {H : Hp} {Q : VK} (ho : Op2 G (rInA G.K neg) op')
    (ht : ∀ (tf tg : TE) (σ : L2.St) (H : Hp) (Q : VK), (tf σ H fun y H1 => tg σ H1 fun x H2 => ∃ a o, x = .ref a ∧ DGet H2 a y o ∧ Q (.bl (neg o.isSome)) H2) → t tf tg σ H Q)
    (e1 : ∀ x ks ds, op x (.dct ks ds) = x.key.map fun k => .bl (neg (hasK ks k))) (e2 : ∀ x y, y.isD = false → op x y = op' x y) (hq : tE G W (eBin op f g) σ H Q) :
    tOp (rInA G.K neg) (tE G W f) (tE G W g) σ H Q ∨ t (tE G W f) (tE G W g) σ H Q := by
  obtain ⟨fp, fv, ρ, I, q⟩ := hq
  -- which kind of thing stands on the right
  have dec : (∃ d m, g ρ = .ok (d, m) ∧ d.isD = true) ∨ ∀ d m, g ρ = .ok (d, m) → d.isD = false := by
    cases h : g ρ with
    | ok r =>
      by_cases z : r.1.isD = true
      · exact .inl ⟨r.1, r.2, rfl, z⟩
      · exact .inr fun a m e => by
          cases e
          exact Bool.eq_false_iff.mpr z
    | ex e => exact .inr fun a m e => by cases e
    | bad => exact .inr fun a m e => by cases e
  rcases dec with ⟨d2, m2, h2, z2⟩ | dec
  · refine .inr (ht _ _ σ H Q ?_)
    unfold eBin at q
    refine tE.of_bind (y := yE G W fp σ H Q) I q (fun e h => h) (fun h => h) fun d m q v H1 e1' v1 => ?_
    refine tE.go (I.same e1') (fun e h => by rw [h2] at h; cases h) (fun h => by rw [h2] at h; cases h) fun d' n h' u H2 e2' v2 => ?_
    rw [h2] at h'
    cases h'
    rw [h2] at q
    cases d2 with
    | dct ks ds =>
      have q : yE G W fp σ H Q ((R.opt (op d (.dct ks ds))).bind fun c => .ok (c, Md.fr)) := q
      rw [e1] at q
      obtain ⟨p, kvs, rfl, _, s, ek, _⟩ := v2.tr
      cases w : d.key with
      | none =>
        rw [w] at q
        exact q.elim
      | some k =>
        rw [w] at q
        have hv := D.key_of (v1.tr) w
        refine ⟨p, _, rfl, .inl ⟨kvs, k, s, hv, rfl⟩, ?_⟩
        rw [valV_mem, ek]
        exact q _ _ (e1'.trans e2') Fresh.bl
    | _ => cases z2
  · refine .inl ?_
    refine tE.bin ho ⟨fp, fv, ρ, I, ?_⟩
    have same : eBin op f g ρ = eBin op' f g ρ := by
      unfold eBin
      cases h : f ρ with
      | ok a =>
        simp only [R.bind]
        cases h' : g ρ with
        | ok b =>
          simp only
          rw [e2 _ _ (dec b.1 b.2 h')]
        | ex e => rfl
        | bad => rfl
      | ex e => rfl
      | bad => rfl
    rw [← same]
    exact q
theorem tE.inX {f g : E} {σ : L2.St} {H : Hp} {Q : VK} (h : tE G W (eBin oInX f g) σ H Q) : tOp (rInA G.K id) (tE G W f) (tE G W g) σ H Q ∨ tDIn (tE G W f) (tE G W g) σ H Q :=
  tE.inG (neg := id) (t := tDIn) op2_in (fun tf tg σ H Q h => h) (fun x ks ds => by unfold oInX oInBD; cases x.key <;> rfl) (fun x y h => by cases y <;> first | rfl | cases h) h
theorem tE.notInX {f g : E} {σ : L2.St} {H : Hp} {Q : VK} (h : tE G W (eBin oNotInX f g) σ H Q) : tOp (rInA G.K not) (tE G W f) (tE G W g) σ H Q ∨ tDNotIn (tE G W f) (tE G W g) σ H Q :=
  tE.inG (neg := not) (t := tDNotIn) op2_notIn (fun tf tg σ H Q h => h) (fun x ks ds => by unfold oNotInX oInBD; cases x.key <;> rfl) (fun x y h => by cases y <;> first | rfl | cases h) h
theorem PT.or {e : Expr} {t u : TT} (h : PT X e t) (k : PT X e u) : PT X e (fun σ H Q => t σ H Q ∨ u σ H Q) := ⟨fun pins s σ H Q I hw => hw.elim (h.run pins s σ H Q I) (k.run pins s σ H Q I)⟩
theorem px_in {a b : Expr} {pos : Pos} {f g : E} (hu : X.A.units + 64 < cLine) (ha : PE X a (tE G W f)) (hb : PE X b (tE G W g)) (hm : behindInMarks .In b = false) (hK : X.K = G.K := by rfl) : PE X (.Compare a [.In] [b] pos) (tE G W (eBin oInX f g)) :=
  PE.of (PE.or (pe_cmpR (op_inA hu) ha hb hm) (pe_cmp (pc_din (by omega) ha hb) hm)) fun σ H Q h => by rw [hK]; exact tE.inX h
theorem px_notIn {a b : Expr} {pos : Pos} {f g : E} (hu : X.A.units + 64 < cLine) (ha : PE X a (tE G W f)) (hb : PE X b (tE G W g)) (hm : behindInMarks .NotIn b = false) (hK : X.K = G.K := by rfl) : PE X (.Compare a [.NotIn] [b] pos) (tE G W (eBin oNotInX f g)) :=
  PE.of (PE.or (pe_cmpR (op_notInA hu) ha hb hm) (pe_cmp (pc_dnotin (by omega) ha hb) hm)) fun σ H Q h => by rw [hK]; exact tE.notInX h
theorem pt_in {a b : Expr} {pos : Pos} {f g : E} (hu : X.A.units + 64 < cLine) (ha : PE X a (tE G W f)) (hb : PE X b (tE G W g)) (hm : behindInMarks .In b = false) (hK : X.K = G.K := by rfl) : PT X (.Compare a [.In] [b] pos) (tT G W (tOf (eBin oInX f g))) :=
  PT.of (PT.or (pt_cmpR (op_inA hu) ha hb hm) (pt_cmp (pc_din (by omega) ha hb) hm)) fun σ H Q h => by
    rw [hK]
    exact tT.test (fun σ H Q h => tE.inX h) h
theorem pt_notIn {a b : Expr} {pos : Pos} {f g : E} (hu : X.A.units + 64 < cLine) (ha : PE X a (tE G W f)) (hb : PE X b (tE G W g)) (hm : behindInMarks .NotIn b = false) (hK : X.K = G.K := by rfl) : PT X (.Compare a [.NotIn] [b] pos) (tT G W (tOf (eBin oNotInX f g))) :=
  PT.of (PT.or (pt_cmpR (op_notInA hu) ha hb hm) (pt_cmp (pc_dnotin (by omega) ha hb) hm)) fun σ H Q h => by
    rw [hK]
    exact tT.test (fun σ H Q h => tE.notInX h) h
end
end Dn
set_option Elab.async false
set_option linter.all false
set_option maxRecDepth 100000
set_option maxHeartbeats 2000000
/-! Dn27: d.get(k, x); x[i] = e. -/
namespace Dn
open PySem L2
def eGet2 (f g h : E) : E := fun ρ => (f ρ).bind fun a => match a.1 with
  | .dct ks ds => (g ρ).bind fun b => (h ρ).bind fun c => (R.opt b.1.key).bind fun k => match lkD ks ds k with
    | some d => .ok (d, a.2)
    | none => .ok c
  | _ => .bad
def putKs (ks : List Key) (k : Key) : List Key := if hasK ks k = true then ks else ks ++ [k]
def putDs (ks : List Key) (ds : List D) (k : Key) (d : D) : List D := if hasK ks k = true then (ks.zip ds).map (fun p => if p.1 = k then d else p.2) else ds ++ [d]
def D.isL : D → Bool
  | .lst _ => true
  | _ => false
def setD (s : D) (k d : D) : Option D := match s with
  | .lst xs => (match k with
    | .int j => (match ixN xs.length j with
      | some n => if D.imms xs = true ∧ d.imm = true then some (.lst (xs.set n d)) else none
      | none => none)
    | _ => none)
  | .dct ks ds => (match k.key with
    | some kk => if D.imms ds = true ∧ d.imm = true ∧ ks.length < 1000000 then some (.dct (putKs ks kk) (putDs ks ds kk d)) else none
    | none => none)
  | _ => none
def sSetI (i : Nat) (kf vf : E) : S := fun ρ => match Sl.mine ρ[i]? with
  | some s => if s.isL = true ∨ s.isD = true then onE (vf ρ) ρ fun d _ => onE (kf ρ) ρ fun k _ => (match setD s k d with
    | some s' => .nx (ρ.set i (Sl.re ρ[i]? s'))
    | none => .bad) else .bad
  | none => .bad
section
variable {X : Cx} {G : Cts} {W : WX}
theorem px_get2 {o e f : Expr} {apos cpos : Pos} {ef eg eh : E} (hu : X.A.units + 1 < cLine) (ho : PE X o (tE G W ef)) (he : PE X e (tE G W eg)) (hf : PE X f (tE G W eh)) (m : M2 X o "get" apos e f cpos) :
    PE X (.Call (.Attribute o "get" apos) [e, f] [] cpos) (tE G W (eGet2 ef eg eh)) := by
  refine PE.of (pe_dget2 hu ho he hf m) fun σ H Q ⟨fp, fv, ρ, I, q⟩ => ?_
  refine tE.of_bind (y := yE G W fp σ H Q) I q (fun e h => h) (fun h => h) fun d m q v H1 e1 v1 => ?_
  cases d with
  | dct ks ds =>
    have hd : ∃ a kvs, v = .ref a ∧ Rd H1 a (.dK kvs) ∧ kvs.map (·.1) = ks ∧ Reps G Nav H1 ds (kvs.map (·.2)) := by
      obtain ⟨a, kvs, e, _, s, k, r⟩ := v1.tr
      exact ⟨a, kvs, e, s, k, r⟩
    obtain ⟨a, kvs, rfl, s, hk, r⟩ := hd
    refine ⟨a, rfl, .inl ⟨kvs, s⟩, ?_⟩
    have I1 := I.same e1
    refine tE.of_bind (y := yE G W fp σ H Q) I1 q (fun e h H' e' => h H' (e1.trans e')) (fun h => h) fun b m2 q y H2 e2 v2 => ?_
    refine tE.of_bind (y := yE G W fp σ H Q) (I1.same e2) q (fun e h H' e' => h H' ((e1.trans e2).trans e')) (fun h => h) fun c m3 q z H3 e3 v3 => ?_
    have s3 : Rd H3 a (.dK kvs) := s.elim (fun h => .inl (e3 _ _ (e2 _ _ h))) fun ⟨o, h⟩ => .inr ⟨o, e3 _ _ (e2 _ _ h)⟩
    cases w : b.key with
    | none =>
      simp only [w] at q
      exact q.elim
    | some k =>
      simp only [w] at q
      have hy := D.key_of v2.tr w
      refine ⟨valV kvs k, .inl ⟨kvs, k, s3, hy, rfl⟩, ?_⟩
      cases w2 : lkD ks ds k with
      | none =>
        rw [(lkD_reps hk r).2 w2]
        simp only [w2, R.bind, R.opt] at q
        exact q z H3 ((e1.trans e2).trans e3) (v3.back (e1.trans e2))
      | some c' =>
        simp only [w2, R.bind, R.opt] at q
        have e : ixD (.dct ks ds) b = some c' := by
          show b.key.bind _ = _
          rw [w]
          exact w2
        obtain ⟨u, h1, h2⟩ := ixD_ok (v1.same (e2.trans e3)) (v2.tr.same e3) e
        obtain ⟨p, u', ep, dg, qq⟩ := (h2 (fun x H => x = u ∧ H = H3) ⟨rfl, rfl⟩).2 rfl
        obtain ⟨rfl, _⟩ := qq
        cases ep
        have : valV kvs k = some u' := by
          obtain ⟨v0, h0, _⟩ := (lkD_reps hk r).1 c' w2
          rcases dg with ⟨kvs2, k2, s2, hy2, h3⟩ | ⟨kvs2, k2, b2, s2, hy2, _⟩
          · have ek : kvs2 = kvs := by
              rcases s2 with s2 | ⟨o, s2⟩ <;> rcases s3 with s3 | ⟨o3, s3⟩ <;> first | (rw [s2] at s3; cases s3; rfl) | (rw [s2] at s3; cases s3)
            subst ek
            have ekk : k2 = k := by
              rw [hy] at hy2
              cases k <;> cases k2 <;> first | (cases hy2; rfl) | cases hy2
            rw [← ekk]
            exact h3.symm
          · rcases s2 with s2 | ⟨o, s2⟩ <;> rcases s3 with s3 | ⟨o3, s3⟩ <;> (rw [s2] at s3; cases s3)
        rw [this]
        exact q u' H3 ((e1.trans e2).trans e3) h1
  | _ => exact q.elim
theorem putK_keys {kvs : List (Key × V)} {k : Key} {v : V} : (putK kvs k v).map (·.1) = putKs (kvs.map (·.1)) k := by
  unfold putK putKs hasK
  rw [List.any_map]
  by_cases h : (kvs.any fun kv => decide (kv.1 = k)) = true
  · have h' : kvs.any ((fun j => decide (j = k)) ∘ fun x => x.1) = true := h
    rw [if_pos h, if_pos h', List.map_map]
    refine List.map_congr_left fun kv _ => ?_
    show (if kv.1 = k then (kv.1, v) else kv).1 = kv.1
    split <;> rfl
  · have h' : ¬ kvs.any ((fun j => decide (j = k)) ∘ fun x => x.1) = true := h
    rw [if_neg h, if_neg h', List.map_append]
    rfl
theorem Reps.putD {av : Addr → Prop} {H : Hp} {kvs : List (Key × V)} {ds : List D} {k : Key} {v : V} {d : D} (r : Reps G av H ds (kvs.map (·.2))) (rd : Rep G av H d v) : Reps G av H (putDs (kvs.map (·.1)) ds k d) ((putK kvs k v).map (·.2)) := by
  unfold putK putDs hasK
  rw [List.any_map]
  by_cases h : (kvs.any fun kv => decide (kv.1 = k)) = true
  · have h' : kvs.any ((fun j => decide (j = k)) ∘ fun x => x.1) = true := h
    rw [if_pos h, if_pos h', List.map_map]
    clear h h'
    induction kvs generalizing ds with
    | nil =>
      cases ds with
      | nil => exact rfl
      | cons d0 ds =>
        obtain ⟨_, _, z, _⟩ := r
        cases z
    | cons kv kvs ih =>
      obtain ⟨j, u⟩ := kv
      cases ds with
      | nil => cases r
      | cons d0 ds =>
        obtain ⟨v0, r0, e, h1, h2⟩ := r
        cases e
        refine ⟨_, _, rfl, ?_, ih h2⟩
        show Rep G av H (if j = k then d else d0) (if j = k then (j, v) else (j, u)).2
        by_cases z : j = k
        · rw [if_pos z, if_pos z]
          exact rd
        · rw [if_neg z, if_neg z]
          exact h1
  · have h' : ¬ kvs.any ((fun j => decide (j = k)) ∘ fun x => x.1) = true := h
    rw [if_neg h, if_neg h', List.map_append]
    exact Reps.append r ⟨v, [], rfl, rd, rfl⟩
theorem imms_putD {ks : List Key} {ds : List D} {k : Key} {d : D} (h : D.imms ds = true) (hd : d.imm = true) : D.imms (putDs ks ds k d) = true := by
  unfold putDs
  split
  · refine imms_mem fun x hx => ?_
    obtain ⟨p, hp, rfl⟩ := List.mem_map.mp hx
    split
    · exact hd
    · exact of_imms h _ (List.of_mem_zip hp).2
  · rw [imms_append, h]
    show (true && (d.imm && true)) = true
    rw [hd]
    rfl
theorem Reps.setAt {av : Addr → Prop} {H : Hp} {d : D} {v : V} : ∀ {xs : List D} {vs : List V} (n : Nat), Reps G av H xs vs → Rep G av H d v → Reps G av H (xs.set n d) (vs.set n v)
  | [], vs, n, h, _ => by
    obtain rfl : vs = [] := h
    exact rfl
  | x :: xs, vs, 0, ⟨u, r, e, _, h⟩, hd => by
    subst e
    exact ⟨v, r, rfl, hd, h⟩
  | x :: xs, vs, n + 1, ⟨u, r, e, h1, h⟩, hd => by
    subst e
    exact ⟨u, _, rfl, h1, Reps.setAt n h hd⟩
theorem imms_set {d : D} (hd : d.imm = true) : ∀ {xs : List D} (n : Nat), D.imms xs = true → D.imms (xs.set n d) = true
  | [], _, _ => rfl
  | x :: xs, 0, h => by
    have h' : (x.imm && D.imms xs) = true := h
    rw [Bool.and_eq_true] at h'
    show (d.imm && D.imms xs) = true
    rw [hd, h'.2]
    rfl
  | x :: xs, n + 1, h => by
    have h' : (x.imm && D.imms xs) = true := h
    rw [Bool.and_eq_true] at h'
    show (x.imm && D.imms (xs.set n d)) = true
    rw [h'.1, imms_set hd n h'.2]
    rfl
theorem PS.or {e : Stmt} {t u : TS} (h : PS X e t) (k : PS X e u) : PS X e (fun D σ H => t D σ H ∨ u D σ H) := ⟨fun pins s σ H D I hw => hw.elim (h.run pins s σ H D I) (k.run pins s σ H D I)⟩
theorem px_setI {st : Stmt} {i : Nat} {kf vf : E} (hl : PS X st (tAsg (tE G W vf) (gSub (tVar i) (tE G W kf) rSetL))) (hd : PS X st (sDPut (tVar i) (tE G W kf) (tE G W vf))) : PS X st (tS G W (sSetI i kf vf)) := by
  refine PS.of (PS.or hl hd) fun D' σ H ⟨H0, io, fp, fv, ρ, I, q⟩ => ?_
  unfold sSetI at q
  cases z : Sl.mine ρ[i]? with
  | none =>
    rw [z] at q
    exact q.elim
  | some s =>
    rw [z] at q
    cases s with
    | lst xs =>
      refine .inl ?_
      have q : SK G W H0 io fv D' (onE (vf ρ) ρ _) := q
      refine tE.st (y := fun r => SK G W H0 io fv D' (onE r ρ _)) I q (fun e h => h) (fun h => h) fun d m q v H1 e1 v1 => ?_
      have I1 := I.same e1
      obtain ⟨a, vs, hv, ha, rs, k⟩ := I1.lstF z
      refine ⟨.ref a, hv, ?_⟩
      have q : SK G W H0 io fv D' (onE (kf ρ) ρ _) := q
      refine tE.st (y := fun r => SK G W H0 io fv D' (onE r ρ _)) I1 q (fun e h => h) (fun h => h) fun kd m2 q u H2 e2 v2 => ?_
      cases kd with
      | int j =>
        obtain rfl : u = .int j := v2.tr
        cases w : ixN xs.length j with
        | none =>
          simp only [onE, setD, w] at q
          exact q.elim
        | some n =>
          by_cases im : D.imms xs = true ∧ d.imm = true
          · simp only [onE, setD, w, im, and_self, if_true] at q
            refine ⟨a, vs, j, n, rfl, rfl, e2 _ _ ha, by rw [← rs.length]; exact w, ?_⟩
            obtain ⟨fp', J⟩ := k H2 (xs.set n d) (vs.set n v) e2 (imms_set im.2 n im.1) (Reps.setAt n (rs.same e2) ((v1.tr).same e2))
            exact q σ _ fp' J
          · simp only [onE, setD, w, im, if_false] at q
            exact q.elim
      | _ => exact q.elim
    | dct ks ds =>
      refine .inr ?_
      have q : SK G W H0 io fv D' (onE (vf ρ) ρ _) := q
      refine tE.st (y := fun r => SK G W H0 io fv D' (onE r ρ _)) I q (fun e h => h) (fun h => h) fun d m q v H1 e1 v1 => ?_
      have I1 := I.same e1
      obtain ⟨a, kvs, f, hv, ha, hk, na, nd, al, ot, k⟩ := I1.dct z
      refine ⟨.ref a, hv, ?_⟩
      have q : SK G W H0 io fv D' (onE (kf ρ) ρ _) := q
      refine tE.st (y := fun r => SK G W H0 io fv D' (onE r ρ _)) I1 q (fun e h => h) (fun h => h) fun kd m2 q u H2 e2 v2 => ?_
      cases w : kd.key with
      | none =>
        simp only [onE, setD, w] at q
        exact q.elim
      | some kk =>
        by_cases im : D.imms ds = true ∧ d.imm = true ∧ ks.length < 1000000
        · simp only [onE, setD, w, im, and_self, if_true] at q
          have hy := D.key_of v2.tr w
          have ln : kvs.length < sizeLine := by
            rw [← hk, List.length_map] at im
            exact line_lt im.2.2
          have r2 : Reps G Nav H2 ds (kvs.map (·.2)) := (OTs.rl ot).same e2
          subst hk
          refine ⟨a, upd H2 a (.dK (putK kvs kk v)), rfl, ?_, ?_⟩
          · rw [hy]
            exact DPut.k (e2 _ _ ha) ln
          · have i2 := imms_putD (ks := kvs.map (·.1)) (k := kk) im.1 im.2.1
            obtain ⟨fp', J⟩ := k H2 (putDs (kvs.map (·.1)) ds kk d) (putK kvs kk v) [] e2 (Reps.own _ _ i2 (Reps.putD r2 ((v1.tr).same e2))) List.nodup_nil (fun z => by cases z) (fun b z => by cases z)
            rw [putK_keys] at J
            exact q σ _ fp' J
        · simp only [onE, setD, w, im, if_false] at q
          exact q.elim
    | _ => exact q.elim
end
end Dn
set_option Elab.async false
set_option linter.all false
set_option maxRecDepth 100000
set_option maxHeartbeats 2000000
/-! Dn28: zip of a list and a tuple; zip in denotations. -/
namespace Dn
open PySem PySem.Spec PyProof.Rows L2
def ItzM (K : PySem.W.Frag) (a b : Addr) : It :=
  ⟨fun i H => ∃ (xs ys : List V) (x y : V), SqL K H a xs ∧ SqT K H b ys ∧ xs[i]? = some x ∧ ys[i]? = some y,
    fun i H v H' => ∃ T x y, v = .ref T ∧ H T = none ∧ H' = upd H T (.tup [x, y]) ∧ (∀ xs, SqL K H a xs → xs[i]? = some x) ∧ ∀ ys, SqT K H b ys → ys[i]? = some y,
    fun i H => ∃ xs ys : List V, SqL K H a xs ∧ SqT K H b ys ∧ i = min xs.length ys.length⟩
theorem turn_zipM {P : Program} {w : World} {K : PySem.W.Frag} {elts : List Expr} {kk : Nat} {tpos : Pos} {a b z TI TO i1 i2 : Addr} (S : ZipSep2 z TI TO i1 i2 [i1, a] [i2, b]) (n1 : a ≠ i1) (n2 : b ≠ i2) :
    Turn P w K (.Tuple elts kk tpos) (ItzM K a b) [z, TI, TO, i1, i2] z (fun i h => IsZip h z TI TO .none ∧ IsPair h TI (.ref i1) (.ref i2) ∧ (∃ x y, IsPair h TO x y) ∧ h.IsListIter i1 a i ∧ h.IsTupleIter i2 b i) where
  mem := by simp
  obj := fun i h st c hc => by
    obtain ⟨hz, hTI, ⟨x, y, hTO⟩, ⟨o1, e1, _, d1⟩, ⟨o2, e2, _, d2⟩⟩ := st
    have e' : c = z ∨ c = TI ∨ c = TO ∨ c = i1 ∨ c = i2 := by simpa using hc
    rcases e' with q | q | q | q | q
    · rw [q]; exact ⟨_, hz, fun v q => nomatch q⟩
    · rw [q]; exact ⟨_, hTI, fun v q => nomatch q⟩
    · rw [q]; exact ⟨_, hTO, fun v q => nomatch q⟩
    · rw [q]; exact ⟨o1, e1, fun v q => by rw [d1] at q; cases q⟩
    · rw [q]; exact ⟨o2, e2, fun v q => by rw [d2] at q; cases q⟩
  keep := fun i h h' st k => by
    obtain ⟨hz, hTI, ⟨x, y, hTO⟩, h1, h2⟩ := st
    exact ⟨k z (by simp) _ hz, k TI (by simp) _ hTI, ⟨x, y, k TO (by simp) _ hTO⟩, h1.at fun o q => k i1 (by simp) o q, h2.at fun o q => k i2 (by simp) o q⟩
  item := by
    intro X hP hw hK hc i pins s σ H E I hf st hg
    subst hP hw hK
    obtain ⟨hz, hTI, ⟨x0, y0, hTO⟩, h1, h2⟩ := st
    obtain ⟨xs, ys, x, y, hqx, hqy, hx, hy⟩ := hg
    obtain ⟨its, rv, p, _⟩ := I.list hqx
    obtain ⟨its2, rv2, p2, _⟩ := I.tuple hqy
    obtain ⟨u, hu, ru⟩ := rv.get hx
    obtain ⟨u2, hu2, ru2⟩ := rv2.get hy
    have hzl : z < s.heap.objs.size := Heap.lt_size hz
    have hh : X.A.in1.handled = none := I.ok.hd hc
    have D1 := Draws.list (prog := X.prog) (w := X.w) hh i1 a n1 its.toArray
    have D2 := Draws.tuple (prog := X.prog) (w := X.w) hh i2 b n2 its2.toArray
    have hu' : its.toArray[i]? = some u := by simpa using hu
    have hu2' : its2.toArray[i]? = some u2 := by simpa using hu2
    refine wpAny_pyNext_zipD2_item S D1 D2 hz hTI hTO ⟨h1, p.isList⟩ ⟨h2, p2⟩ (Array.getElem?_eq_some_iff.mp hu').1 (Array.getElem?_eq_some_iff.mp hu2').1 fun w1 w2 h' tk y1 y2 z' TO' d1 d2 hT hsz hk => ?_
    have e1 : w1 = u := by rw [hu'] at y1; cases y1; rfl
    have e2 : w2 = u2 := by rw [hu2'] at y2; cases y2; rfl
    subst e1 e2
    refine ⟨_, rfl, wpAny_letOwnedTupleGo_zip (s := { s with heap := h', toks := tk }) z' fun h'' z'' sb => ?_⟩
    have hT2 : h''.get? s.heap.objs.size = some { cls := .type "tuple", data := .seq #[w1, w2] } := (sb.2 _ (Nat.ne_of_gt hzl)).trans hT
    have new : ObjOk X.prog X.w (upd H s.heap.objs.size (.tup [x, y])) h'' s.heap.objs.size (.tup [x, y]) :=
      ⟨by show 2 ≤ sizeLine; decide, [w1, w2], .cons ru (.cons ru2 .nil), ⟨_, hT2, rfl, _, rfl⟩⟩
    have I1 : Inv X pins σ (upd H s.heap.objs.size (.tup [x, y])) { s with heap := h'', toks := tk } :=
      I.turnedNew (t' := tk) (ch := [z, TI, TO, i1, i2]) (fun c o hb q => (sb.2 c (fun q' => hb (by simp [q']))).trans (hk c o (fun q' => hb (by simp [q'])) (fun q' => hb (by simp [q'])) (fun q' => hb (by simp [q'])) (fun q' => hb (by simp [q'])) q)) hf (Nat.le_refl _) new
    refine ⟨.ref s.heap.objs.size, _, I1, rfl, ⟨_, x, y, rfl, I.hok.fresh (Nat.le_refl _), rfl, fun l hl => by rw [I.list_inj hl hqx]; exact hx, fun l hl => by rw [I.tuple_inj hl hqy]; exact hy⟩, ⟨z'', ?_, ⟨w1, w2, ?_⟩, ?_, ?_⟩, fun c hcm => ?_⟩
    · exact (sb.2 _ S.TIz).trans (hk _ _ S.TIz S.TITO S.TIi1 S.TIi2 hTI)
    · exact (sb.2 _ S.TOz).trans TO'
    · exact d1.1.at fun o q => (sb.2 _ (Ne.symm S.zi1)).trans q
    · exact d2.1.at fun o q => (sb.2 _ (Ne.symm S.zi2)).trans q
    · have hlt : c < s.heap.objs.size := by
        have e' : c = z ∨ c = TI ∨ c = TO ∨ c = i1 ∨ c = i2 := by simpa using hcm
        rcases e' with q | q | q | q | q
        · rw [q]; exact hzl
        · rw [q]; exact Heap.lt_size hTI
        · rw [q]; exact Heap.lt_size hTO
        · rw [q]; obtain ⟨_, e1, _⟩ := h1; exact Heap.lt_size e1
        · rw [q]; obtain ⟨_, e2, _⟩ := h2; exact Heap.lt_size e2
      rw [upd_ne (Nat.ne_of_lt hlt)]
      exact (hf c hcm).1
  done := by
    intro X hP hw hK hc i pins s σ H E I hf st hg
    subst hP hw hK
    obtain ⟨hz, hTI, ⟨x0, y0, hTO⟩, h1, h2⟩ := st
    obtain ⟨xs, ys, hqx, hqy, hend⟩ := hg
    obtain ⟨its, rv, p, _⟩ := I.list hqx
    obtain ⟨its2, rv2, p2, _⟩ := I.tuple hqy
    have l1 := rv.length
    have l2 := rv2.length
    have hh : X.A.in1.handled = none := I.ok.hd hc
    have D1 := Draws.list (prog := X.prog) (w := X.w) hh i1 a n1 its.toArray
    have D2 := Draws.tuple (prog := X.prog) (w := X.w) hh i2 b n2 its2.toArray
    exact wpAny_pyNext_zipD2_end S D1 D2 hz hTI hTO ⟨h1, p.isList⟩ ⟨h2, p2⟩ (by simp; omega) (by simp; omega) (by simp; omega) fun h' tk hk => ⟨rfl, I.turnedL (t' := tk) (ch := [z, TI, TO, i1, i2]) (fun c o hb q =>
      hk c o (fun q' => hb (by simp [q'])) (fun q' => hb (by simp [q'])) (fun q' => hb (by simp [q'])) (fun q' => hb (by simp [q'])) q) hf⟩
  self := fun A i s Q E st h => wpAny_pyIter_zip st.1 h
end Dn
set_option Elab.async false
set_option linter.all false
set_option maxRecDepth 100000
set_option maxHeartbeats 2000000
/-! Dn29: zip, enumerate walked. -/
namespace Dn
open PySem PySem.Spec PyProof.Rows L2
def iZipM (K : PySem.W.Frag) (ta : TA) : TI := fun σ H R => ta σ H fun vs H1 => ∃ a b xs ys, vs = [.ref a, .ref b] ∧ SqL K H1 a xs ∧ SqT K H1 b ys ∧ R (ItzM K a b) H1
theorem zsep (n a b : Nat) (la : a < n) (lb : b < n) : ZipSep2 (n + 4) (n + 2) (n + 3) n (n + 1) [n, a] [n + 1, b] := by
  have out : ∀ x y z : Nat, x ≠ y → x ≠ z → x ∉ [y, z] := fun x y z h k q => by
    rcases List.mem_cons.mp q with q | q
    · exact h q
    · exact k (List.mem_singleton.mp q)
  exact ⟨(show (n + 2 : Nat) ≠ n + 4 by omega), (show (n + 3 : Nat) ≠ n + 4 by omega), (show (n + 2 : Nat) ≠ n + 3 by omega), (show (n + 2 : Nat) ≠ n by omega), List.mem_cons_self, out _ _ _ (show (n + 4 : Nat) ≠ n by omega) (show (n + 4 : Nat) ≠ a by omega),
    out _ _ _ (show (n + 3 : Nat) ≠ n by omega) (show (n + 3 : Nat) ≠ a by omega), (show (n + 2 : Nat) ≠ n + 1 by omega), List.mem_cons_self, out _ _ _ (show (n + 4 : Nat) ≠ n + 1 by omega) (show (n + 4 : Nat) ≠ b by omega),
    out _ _ _ (show (n + 3 : Nat) ≠ n + 1 by omega) (show (n + 3 : Nat) ≠ b by omega), out _ _ _ (show n ≠ n + 1 by omega) (show n ≠ b by omega), out _ _ _ (show (n + 1 : Nat) ≠ n by omega) (show (n + 1 : Nat) ≠ a by omega)⟩
theorem pi_zipM {X : Cx} {e e2 : Expr} {ta : TA} {p pos tpos : Pos} {elts : List Expr} {kk : Nat} (hg : Gl X "zip") (hm : X.mg "zip" = none) (ha : PA X [e, e2] ta)
    (hs : starEach [e, e2] X.env = (false, eval e X.env) :: starEach [e2] X.env := by rfl) (hpl : (backTo pos (starEach [e2] X.env)).any (·.1) = false := by rfl) :
    PI X (.Tuple elts kk tpos) (.Call (.Name "zip" p) [e, e2] [] pos) (iZipM X.K ta) := by
  refine ⟨fun pins s σ H R I h => ?_⟩
  refine Call_ (ld_blt I hg hm PyProof.Rows.boot_zip (PyProof.Rows.callWith_type1 (thn (ha.run pos pins s σ H _ I h) fun us s1 ⟨vs, H1, I1, r1, q1⟩ => ?_) hs hpl))
  obtain ⟨a, b, xs, ys, ex, hqx, hqy, q⟩ := q1
  subst ex
  cases r1 with
  | cons r rr =>
    cases rr with
    | cons r' rr =>
      cases rr
      cases r
      cases r'
      have fresh5 : ∀ c, c ∈ [s1.heap.objs.size + 4, s1.heap.objs.size + 2, s1.heap.objs.size + 3, s1.heap.objs.size, s1.heap.objs.size + 1] → FpOk X pins H1 c := fun c hcm => by
        have e' : c = s1.heap.objs.size + 4 ∨ c = s1.heap.objs.size + 2 ∨ c = s1.heap.objs.size + 3 ∨ c = s1.heap.objs.size ∨ c = s1.heap.objs.size + 1 := by simpa using hcm
        have hle : s1.heap.objs.size ≤ c := by omega
        exact I1.fpOk hle (I1.hok.fresh hle)
      obtain ⟨its, rv, p1, _⟩ := I1.list hqx
      obtain ⟨its2, rv2, p2, _⟩ := I1.tuple hqy
      obtain ⟨o2, ho2, _⟩ := id p2
      have la : a < s1.heap.objs.size := p1.lt
      have lb : b < s1.heap.objs.size := Heap.lt_size ho2
      have S : ZipSep2 (s1.heap.objs.size + 4) (s1.heap.objs.size + 2) (s1.heap.objs.size + 3) s1.heap.objs.size (s1.heap.objs.size + 1) [s1.heap.objs.size, a] [s1.heap.objs.size + 1, b] := by
        exact zsep _ a b la lb
      refine zip_begins2 (begins_list a its.toArray) (begins_tuple b its2.toArray) p1.isList p2 fun h' hz hTI hTO g1 g2 hsz hk => wpAny_pyIter_zip hz ?_
      have I2 : Inv X pins σ H1 { s1 with heap := h' } := I1.kept (t' := s1.toks) hk
      refine ⟨s1.heap.objs.size + 4, [s1.heap.objs.size + 4, s1.heap.objs.size + 2, s1.heap.objs.size + 3, s1.heap.objs.size, s1.heap.objs.size + 1], _, _, H1, rfl, I2, turn_zipM S (Nat.ne_of_lt la) (Nat.ne_of_lt (Nat.lt_succ_of_lt lb)), ⟨hz, hTI, ⟨_, _, hTO⟩, ⟨_, g1, rfl, rfl⟩, ⟨_, g2, rfl, rfl⟩⟩, fresh5, q⟩
def pairD (x y : D) : D := .tup [x, y]
def zipD (x y : D) : Option (List D) := match x with
  | .lst xs => (match y with
    | .lst ys => some (List.zipWith pairD xs ys)
    | .tup ys => some (List.zipWith pairD xs ys)
    | _ => none)
  | .tup xs => (match y with
    | .tup ys => some (List.zipWith pairD xs ys)
    | _ => none)
  | _ => none
def itZip (g : EA) : EI := fun ρ => (g ρ).bind fun a => match a.1 with
  | [x, y] => (match a.2 with
    | .tr => if x.imm = true ∧ y.imm = true then R.opt (zipD x y) else .bad
    | _ => R.opt (zipD x y))
  | _ => .bad
section
variable {X : Cx} {G : Cts} {W : WX} {tg : Expr}
theorem zipW_at {α β γ : Type} {f : α → β → γ} : ∀ {xs : List α} {ys : List β} {i : Nat} {c : γ}, (List.zipWith f xs ys)[i]? = some c → ∃ x y, xs[i]? = some x ∧ ys[i]? = some y ∧ c = f x y
  | [], _, _, _, h => by simp at h
  | x :: xs, [], _, _, h => by simp at h
  | x :: xs, y :: ys, 0, c, h => by
    cases h
    exact ⟨x, y, rfl, rfl, rfl⟩
  | x :: xs, y :: ys, i + 1, c, h => zipW_at (xs := xs) (ys := ys) h
theorem wk_zip {pr1 pr2 : Hp → Addr → List V → Prop} {J : It} {a b : Addr} {vs ws : List V} {av : Addr → Prop} {H1 : Hp} {xs ys : List D} (hgo : ∀ i H x y, pr1 H a vs → pr2 H b ws → vs[i]? = some x → ws[i]? = some y → J.go i H)
    (hyl : ∀ i H v H', J.yld i H v H' → pr1 H a vs → pr2 H b ws → ∃ T x y, v = .ref T ∧ H T = none ∧ H' = upd H T (.tup [x, y]) ∧ vs[i]? = some x ∧ ws[i]? = some y) (hst : ∀ H, pr1 H a vs → pr2 H b ws → J.stop (min vs.length ws.length) H)
    (hp1 : ∀ H, Av av H1 H → Tk G H1 H → pr1 H a vs) (hp2 : ∀ H, Av av H1 H → Tk G H1 H → pr2 H b ws) (r1 : Reps G av H1 xs vs) (r2 : Reps G av H1 ys ws) : Wk G av J H1 (List.zipWith pairD xs ys) := by
  intro H k t i
  have h1 := hp1 H k t
  have h2 := hp2 H k t
  refine ⟨fun d hd => ?_, fun hl => ?_⟩
  · obtain ⟨x, y, hx, hy, rfl⟩ := zipW_at hd
    obtain ⟨v, hv, rv⟩ := r1.get hx
    obtain ⟨u, hu, ru⟩ := r2.get hy
    refine ⟨hgo i H v u h1 h2 hv hu, fun z H' yy => ?_⟩
    obtain ⟨T, v', u', rfl, hT, rfl, q1, q2⟩ := hyl i H z H' yy h1 h2
    rw [hv] at q1
    rw [hu] at q2
    cases q1
    cases q2
    have s := same_new (o := .tup [v, u]) hT
    exact ⟨s, fun av' k' => ⟨T, [v, u], rfl, SqT.of upd_same, v, [u], rfl, (Rep.wk k t k' rv).same s, u, [], rfl, (Rep.wk k t k' ru).same s, rfl⟩⟩
  · rw [List.length_zipWith, r1.length, r2.length] at hl
    subst hl
    exact hst H h1 h2
theorem pi_ofZip {e e2 : Expr} {g : EA} {p pos tpos : Pos} {elts : List Expr} {kk : Nat} (hg : Gl X "zip") (hm : X.mg "zip" = none) (ha : PA X [e, e2] (tA G W g)) (hK : X.K = G.K := by rfl)
    (hs : starEach [e, e2] X.env = (false, eval e X.env) :: starEach [e2] X.env := by rfl) (hpl : (backTo pos (starEach [e2] X.env)).any (·.1) = false := by rfl) :
    PI X (.Tuple elts kk tpos) (.Call (.Name "zip" p) [e, e2] [] pos) (tI G W (itZip g)) := by
  refine PI.of (PI.or (RZ.pi_zipA hg hm ha hs hpl) (pi_zipM hg hm ha hs hpl)) fun σ H Q ⟨fp, fv, ρ, I, q⟩ => ?_
  -- what the arguments are
  have run : ∀ P : List V → Hp → Prop, (∀ x y zs, (∃ m, g ρ = .ok ([x, y], m)) → zipD x y = some zs → ∀ v u H1, Same H H1 → Rep G (Own fp) H1 x v → Rep G (Own fp) H1 y u → (∀ J, Wk G (Own fp) J H1 zs → Q J H1) → P [v, u] H1) → tA G W g σ H P := fun P k => by
    refine ⟨fp, fv, ρ, I, ?_⟩
    unfold itZip at q
    cases zg : g ρ with
    | ex e =>
      rw [zg] at q
      exact q
    | bad =>
      rw [zg] at q
      exact q.elim
    | ok gd =>
    obtain ⟨ds, m⟩ := gd
    rw [zg] at q
    intro vs H1 e1 v1
    match ds, q, v1, zg with
    | [], q, _, _ => exact q.elim
    | [_], q, _, _ => exact q.elim
    | _ :: _ :: _ :: _, q, _, _ => exact q.elim
    | [x, y], q, v1, zg =>
      have key : yI G W fp σ H Q (R.opt (zipD x y)) ∧ Reps G (Own fp) H1 [x, y] vs := by
        cases m with
        | fr => exact ⟨q, Freshs.rep v1 fun a ⟨i, z⟩ => I.al i a z⟩
        | sh => exact ⟨q, v1⟩
        | tr =>
          by_cases im : x.imm = true ∧ y.imm = true
          · have q : yI G W fp σ H Q (if x.imm = true ∧ y.imm = true then R.opt (zipD x y) else .bad) := q
            rw [if_pos im] at q
            refine ⟨q, Freshs.rep (H := H) (Freshs.of_imms ?_ v1) fun a ⟨i, z⟩ => I.al i a z⟩
            show (x.imm && (y.imm && true)) = true
            rw [im.1, im.2]
            rfl
          · have q : yI G W fp σ H Q (if x.imm = true ∧ y.imm = true then R.opt (zipD x y) else .bad) := q
            rw [if_neg im] at q
            exact q.elim
      obtain ⟨q, r⟩ := key
      obtain ⟨v, u, rfl, rv, ru⟩ := two_of r
      cases z : zipD x y with
      | none =>
        rw [z] at q
        exact q.elim
      | some zs =>
        rw [z] at q
        exact k x y zs ⟨m, zg⟩ z v u H1 e1 rv ru fun J wk => q J H1 e1 wk
  rw [hK]
  -- which kinds
  by_cases dec : ∃ xs ys m, g ρ = .ok ([.lst xs, .tup ys], m)
  · obtain ⟨xs, ys, m, dec⟩ := dec
    refine .inr (run _ fun x y zs hgr hz v u H1 e1 rv ru k => ?_)
    obtain ⟨m', hgr⟩ := hgr
    rw [dec] at hgr
    cases hgr
    cases hz
    obtain ⟨a, vs, rfl, na, sa, ra⟩ := rv
    obtain ⟨b, ws, rfl, sb, rb⟩ := ru
    refine ⟨a, b, vs, ws, rfl, SqL.of sa, sb, k _ (wk_zip (pr1 := fun H a xs => SqL G.K H a xs) (pr2 := fun H b ys => SqT G.K H b ys) (a := a) (b := b) (vs := vs) (ws := ws) (fun i H x y h1 h2 hx hy => ⟨vs, ws, x, y, h1, h2, hx, hy⟩)
      (fun i H v H' yy h1 h2 => let ⟨T, x, y, e1, e2, e3, e4, e5⟩ := yy; ⟨T, x, y, e1, e2, e3, e4 _ h1, e5 _ h2⟩) (fun H h1 h2 => ⟨vs, ws, h1, h2, rfl⟩) (fun H kk t => SqL.of (kk a _ na sa)) (fun H kk t => t.1 b _ sb) ra rb)⟩
  · refine .inl (run _ fun x y zs hgr hz v u H1 e1 rv ru k => ?_)
    obtain ⟨m', hgr⟩ := hgr
    cases x with
    | lst xs =>
      cases y with
      | lst ys =>
        cases hz
        obtain ⟨a, vs, rfl, na, sa, ra⟩ := rv
        obtain ⟨b, ws, rfl, nb, sb, rb⟩ := ru
        refine ⟨a, b, vs, ws, rfl, .inl ⟨SqL.of sa, SqL.of sb, k _ (wk_zip (pr1 := fun H a xs => SqL G.K H a xs) (pr2 := fun H b ys => SqL G.K H b ys) (a := a) (b := b) (vs := vs) (ws := ws) (fun i H x y h1 h2 hx hy => ⟨vs, ws, x, y, h1, h2, hx, hy⟩)
          (fun i H v H' yy h1 h2 => let ⟨T, x, y, e1, e2, e3, e4, e5⟩ := yy; ⟨T, x, y, e1, e2, e3, e4 _ h1, e5 _ h2⟩) (fun H h1 h2 => ⟨vs, ws, h1, h2, by omega⟩) (fun H kk t => SqL.of (kk a _ na sa)) (fun H kk t => SqL.of (kk b _ nb sb)) ra rb)⟩⟩
      | tup ys => exact absurd ⟨xs, ys, m', hgr⟩ dec
      | _ => cases hz
    | tup xs =>
      cases y with
      | tup ys =>
        cases hz
        obtain ⟨a, vs, rfl, sa, ra⟩ := rv
        obtain ⟨b, ws, rfl, sb, rb⟩ := ru
        refine ⟨a, b, vs, ws, rfl, .inr ⟨sa, sb, k _ (wk_zip (pr1 := fun H a xs => SqT G.K H a xs) (pr2 := fun H b ys => SqT G.K H b ys) (a := a) (b := b) (vs := vs) (ws := ws) (fun i H x y h1 h2 hx hy => ⟨vs, ws, x, y, h1, h2, hx, hy⟩)
          (fun i H v H' yy h1 h2 => let ⟨T, x, y, e1, e2, e3, e4, e5⟩ := yy; ⟨T, x, y, e1, e2, e3, e4 _ h1, e5 _ h2⟩) (fun H h1 h2 => ⟨vs, ws, h1, h2, by omega⟩) (fun H kk t => t.1 a _ sa) (fun H kk t => t.1 b _ sb) ra rb)⟩⟩
      | _ => cases hz
    | _ => cases hz
end
end Dn
set_option Elab.async false
set_option linter.all false
set_option maxRecDepth 100000
set_option maxHeartbeats 2000000
/-! Dn30: insert; an item of one's own list handed back. -/
namespace Dn
open PySem L2
def sIns (i : Nat) (kf vf : E) : S := fun ρ => match Sl.mine ρ[i]? with
  | some (.lst xs) => onE (kf ρ) ρ fun k _ => onE (vf ρ) ρ fun d _ => (match k with
    | .int j => if D.imms xs = true ∧ d.imm = true ∧ xs.length < 1000000 ∧ 0 ≤ j ∧ j ≤ 1000000 then .nx (ρ.set i (Sl.re ρ[i]? (.lst (xs.take j.toNat ++ [d] ++ xs.drop j.toNat)))) else .bad
    | _ => .bad)
  | _ => .bad
/-- return x[e], x a slot: what it owns goes with its item -/
def sRetIx (i : Nat) (kf : E) : S := fun ρ => match ρ[i]? with
  | some (.own s) => onE (kf ρ) ρ fun k _ => (match ixD s k with
    | some d => .rt d (ρ.set i .nil)
    | none => .bad)
  | _ => sRet (eIx (eVar i) kf) ρ
section
variable {X : Cx} {G : Cts} {W : WX}
theorem px_ins {st : Stmt} {i : Nat} {kf vf : E} (h : PS X st (tDrop (tBM X.K "list" (fun x vs H Q => ∃ (l : Addr) (xs : List V) (i : Int) (y : V), x = .ref l ∧ vs = [.int i, y] ∧ H l = some (.lst xs) ∧ xs.length < sizeLine ∧ 0 ≤ i ∧ i < 2 ^ 63 ∧
    Q .non (upd H l (.lst (xs.take i.toNat ++ [y] ++ xs.drop i.toNat)))) (tVar i) (tA G W (eCons kf (eCons vf eNil)))))) : PS X st (tS G W (sIns i kf vf)) := by
  refine PS.of h fun D' σ H ⟨H0, io, fp, fv, ρ, I, q⟩ => ?_
  unfold sIns at q
  cases z : Sl.mine ρ[i]? with
  | none =>
    rw [z] at q
    exact q.elim
  | some s =>
    rw [z] at q
    cases s with
    | lst xs =>
      obtain ⟨a, vs, hv, ha, rs, kk⟩ := I.lstF z
      refine ⟨_, hv, .inl ⟨rfl, vs, SqL.of ha⟩, ?_⟩
      show tA G W (eCons kf (eCons vf eNil)) σ H _
      have q : SK G W H0 io fv D' (onE (kf ρ) ρ _) := q
      refine ⟨fp, fv, ρ, I.l, ?_⟩
      unfold eCons eNil
      cases w : kf ρ with
      | ex e =>
        rw [w] at q
        exact fun H' e' => q σ H' fp (I.same e')
      | bad =>
        rw [w] at q
        exact q.elim
      | ok k =>
        rw [w] at q
        have q : SK G W H0 io fv D' (onE (vf ρ) ρ _) := q
        cases w2 : vf ρ with
        | ex e =>
          rw [w2] at q
          exact fun H' e' => q σ H' fp (I.same e')
        | bad =>
          rw [w2] at q
          exact q.elim
        | ok b =>
          rw [w2] at q
          intro us H1 e1 v1
          obtain ⟨u1, u2, rfl, r1, r2⟩ := two_of (VsOk.tr v1)
          obtain ⟨k, m1⟩ := k
          obtain ⟨d, m2⟩ := b
          cases k with
          | int j =>
            obtain rfl : u1 = .int j := r1
            by_cases c : D.imms xs = true ∧ d.imm = true ∧ xs.length < 1000000 ∧ 0 ≤ j ∧ j ≤ 1000000
            · simp only [onE, c, and_self, if_true] at q
              refine ⟨a, vs, j, u2, rfl, rfl, e1 _ _ ha, ?_, c.2.2.2.1, by omega, ?_⟩
              · rw [← rs.length]
                exact line_lt c.2.2.1
              · have im : D.imms (xs.take j.toNat ++ [d] ++ xs.drop j.toNat) = true := by
                  refine imms_mem fun x hx => ?_
                  rcases List.mem_append.mp hx with hx | hx
                  · rcases List.mem_append.mp hx with hx | hx
                    · exact of_imms c.1 x (List.mem_of_mem_take hx)
                    · rw [List.mem_singleton.mp hx]
                      exact c.2.1
                  · exact of_imms c.1 x (List.mem_of_mem_drop hx)
                have rs1 := rs.same e1
                obtain ⟨fp', J⟩ := kk H1 _ (vs.take j.toNat ++ [u2] ++ vs.drop j.toNat) e1 im (Reps.append (Reps.append (Reps.take _ rs1) ⟨u2, [], rfl, r2, rfl⟩) (Reps.drop _ rs1))
                exact q σ _ fp' J
            · simp only [onE, c, if_false] at q
              exact q.elim
          | _ => exact q.elim
    | _ => exact q.elim
theorem px_retIx {x : Str} {p pos pos2 : Pos} {b : Expr} {i : Nat} {kf : E} (hu : X.A.units + 1 < cLine) (ha : PE X (.Name x p) (tVar i)) (hb : PE X b (tE G W kf)) (hK : X.K = G.K := by rfl) (hs : PlainIx b := by exact fun _ _ => rfl) (hn : NoSl b := by exact fun _ _ => rfl) :
    PS X (.Return (some (.Subscript (.Name x p) b pos)) pos2) (tS G W (sRetIx i kf)) := by
  refine PS.of (PS.or (ps_ret (PE.or (pe_ix ix_seq ha hb hs) (pe_dget hu ha hb hn))) (px_ret (px_ix hu (px_var ha) hb hK hs hn))) fun D' σ H ⟨H0, io, fp, fv, ρ, I, q⟩ => ?_
  unfold sRetIx at q
  cases e : ρ[i]? with
  | none =>
    rw [e] at q
    exact .inr ⟨H0, io, fp, fv, ρ, I, q⟩
  | some sl =>
    rw [e] at q
    cases sl with
    | nil => exact .inr ⟨H0, io, fp, fv, ρ, I, q⟩
    | shr d => exact .inr ⟨H0, io, fp, fv, ρ, I, q⟩
    | io d => exact .inr ⟨H0, io, fp, fv, ρ, I, q⟩
    | exc _ => exact .inr ⟨H0, io, fp, fv, ρ, I, q⟩
    | own s =>
      refine .inl ?_
      have q : SK G W H0 io fv D' (onE (kf ρ) ρ _) := q
      obtain ⟨v, hv, ot⟩ := I.l.sl i _ e
      have hi : i < ρ.length := (List.getElem?_eq_some_iff.mp e).1
      have two : ∀ (P : V → Hp → Prop), (∀ k d y H2, Rep G Nav H2 k y → ixD s k = some d → OT G H2 s v (fp i) → (∀ u g, OT G H2 d u g → g.Sublist (fp i) → D'.rt u H2) → P y H2) → tE G W kf σ H P := fun P kk => by
        refine tE.st (y := fun r => SK G W H0 io fv D' (onE r ρ _)) I q (fun e h => h) (fun h => h) fun k m q y H2 e2 v2 => ?_
        cases w : ixD s k with
        | none =>
          simp only [onE, w] at q
          exact q.elim
        | some d =>
          simp only [onE, w] at q
          refine kk k d y H2 v2.tr w (OT.same e2 ot) fun u g og sg => q u H2 ?_
          refine ⟨σ, upF fp i [], g, (I.same e2).mut hi (fun _ _ _ h => h) Tk.refl List.nodup_nil (fun _ z => by cases z) (fun _ z => by cases z) trivial, og, sg.nodup (I.l.nd i), fun a ha => ⟨I.src i a (sg.subset ha), fun j hj => ?_⟩⟩
          by_cases z : j = i
          · subst z
            rw [upF_same] at hj
            cases hj
          · rw [upF_ne z] at hj
            exact I.l.dj j i z a hj (sg.subset ha)
      by_cases isd : s.isD = true
      · refine Or.inr ⟨v, hv, two _ fun k d y H2 r w o kk => ?_⟩
        obtain ⟨u, g, h1, h2, h3⟩ := ixD_ot o r w
        exact (h3 (fun u H => D'.rt u H) (kk u g h1 h2)).2 isd
      · refine Or.inl ⟨v, hv, two _ fun k d y H2 r w o kk => ?_⟩
        obtain ⟨u, g, h1, h2, h3⟩ := ixD_ot o r w
        rw [hK]
        exact (h3 (fun u H => D'.rt u H) (kk u g h1 h2)).1 (Bool.eq_false_iff.mpr isd)
end
end Dn
set_option Elab.async false
set_option linter.all false
set_option maxRecDepth 100000
set_option maxHeartbeats 2000000
/-! Dn31: calls without arguments. -/
namespace Dn
open PySem L2
def eCall0 (F : List D → R D) : E := fun _ => (F []).nox.bind fun d => .ok (d, .fr)
section
variable {X : Cx} {G : Cts} {W : WX}
theorem pass_no : Passes (L2.CX X.prog X.w) X (fun _ _ _ => False) := by
  intro pins σ H s e s' I h
  obtain ⟨_, _, _, _, _, _, _, _, _, _, _, _, z⟩ := h
  exact z.elim
theorem px_call0 {x : Str} {k j : Nat} {F : List D → R D} {p pos : Pos} (c : Cal G X.prog X.w X.mg X.base k x [] F) (hr : Room j X.A) (hj : k ≤ j) (hg : Gl X x) (hK : X.K = G.K := by rfl) (hdb : (x == ("__debug__" : Str)) = false := by decide) :
    PE X (.Call (.Name x p) [] [] pos) (tE G W (eCall0 F)) := by
  obtain ⟨f, fd, ok, hm, hk, hb, _⟩ := c.at'
  refine PE.of (pe_call0 (dvs := []) (by rw [hK]; exact ok) (hr.mono hj) hg hm (by rw [hK]; exact hk) (by rw [hK]; exact hb) .nil pass_no hdb) fun σ H Q ⟨fp, fv, ρ, I, q⟩ => ?_
  refine (show tCall (SpF G [].length F) [] (fun _ _ _ => False) tNil σ H Q from ?_)
  unfold tCall tNil
  refine ⟨rfl, [], rfl, ?_⟩
  unfold eCall0 at q
  cases z : F [] with
  | ok d =>
    rw [z] at q
    exact fun v H' e' f' => q v H' e' f'
  | ex e =>
    rw [z] at q
    exact q.elim
  | bad =>
    rw [z] at q
    exact q.elim
@[simp] theorem eCall0_eq (F : List D → R D) (ρ : Rho) : eCall0 F ρ = (F []).nox.bind fun d => .ok (d, .fr) := rfl
end
/-! ### how the new ones are reckoned -/
@[simp] theorem oInX_str (a b : Str) : oInX (.str a) (.str b) = some (.bl (inT a b)) := rfl
@[simp] theorem oNotInX_str (a b : Str) : oNotInX (.str a) (.str b) = some (.bl (!inT a b)) := rfl
@[simp] theorem oInX_lst (a : D) (xs : List D) : oInX a (.lst xs) = if a.pl 9 = true ∧ D.pls 9 xs = true then some (.bl (xs.any fun y => y.eqv a)) else none := oIn_lst a xs
@[simp] theorem oInX_tup (a : D) (xs : List D) : oInX a (.tup xs) = if a.pl 9 = true ∧ D.pls 9 xs = true then some (.bl (xs.any fun y => y.eqv a)) else none := oIn_tup a xs
@[simp] theorem oNotInX_lst (a : D) (xs : List D) : oNotInX a (.lst xs) = if a.pl 9 = true ∧ D.pls 9 xs = true then some (.bl (!xs.any fun y => y.eqv a)) else none := oNotIn_lst a xs
@[simp] theorem oNotInX_tup (a : D) (xs : List D) : oNotInX a (.tup xs) = if a.pl 9 = true ∧ D.pls 9 xs = true then some (.bl (!xs.any fun y => y.eqv a)) else none := oNotIn_tup a xs
@[simp] theorem oInX_dct (a : D) (ks : List Key) (ds : List D) : oInX a (.dct ks ds) = a.key.map fun k => .bl (hasK ks k) := by unfold oInX oInBD; cases a.key <;> rfl
@[simp] theorem oNotInX_dct (a : D) (ks : List Key) (ds : List D) : oNotInX a (.dct ks ds) = a.key.map fun k => .bl (!hasK ks k) := by unfold oNotInX oInBD; cases a.key <;> rfl
@[simp] theorem key_int (i : Int) : D.key (.int i) = some (.inl i) := rfl
@[simp] theorem key_str (i : Str) : D.key (.str i) = some (.inr i) := rfl
@[simp] theorem eDct0_eq (ρ : Rho) : eDct0 ρ = .ok (.dct [] [], .fr) := rfl
end Dn
set_option Elab.async false
set_option linter.all false
set_option maxRecDepth 100000
set_option maxHeartbeats 2000000
/-! Dn32: a tuple is handed back, with what slots own in it. -/
namespace Dn
open PySem L2
/-- parts: new ones (none), a slot's own (some i) -/
abbrev EM := Rho → R (List (D × Option Nat))
def mNil : EM := fun _ => .ok []
def mEv (f : E) (g : EM) : EM := fun ρ => (f ρ).bind fun a => (g ρ).bind fun b => match md a.1 a.2 with
  | .fr => .ok ((a.1, none) :: b)
  | _ => .bad
def mMv (i : Nat) (g : EM) : EM := fun ρ => match ρ[i]? with
  | some (.own d) => (g ρ).bind fun b => .ok ((d, some i) :: b)
  | some (.shr d) => if d.imm = true then (g ρ).bind fun b => .ok ((d, none) :: b) else .bad
  | _ => .bad
def mvs : List (D × Option Nat) → List Nat
  | [] => []
  | (_, none) :: r => mvs r
  | (_, some i) :: r => i :: mvs r
def nilAll (ρ : Rho) : List Nat → Rho
  | [] => ρ
  | i :: r => (nilAll ρ r).set i .nil
def sRetM (g : EM) : S := fun ρ => match g ρ with
  | .ok ps => if (mvs ps).Nodup ∧ ps.length ≤ 1000000 ∧ (∀ i ∈ mvs ps, i < ρ.length) then .rt (.tup (ps.map (·.1))) (nilAll ρ (mvs ps)) else .bad
  | .ex e => .ex e ρ
  | .bad => .bad
/-- what the parts own: new since H, or a slot's -/
def VM (G : Cts) (fp : Nat → List Addr) (H H' : Hp) : List (D × Option Nat) → List V → List Addr → Prop
  | [], vs, f => vs = [] ∧ f = []
  | (d, none) :: r, vs, f => ∃ v vr f1 f2, vs = v :: vr ∧ f = f1 ++ f2 ∧ OT G H' d v f1 ∧ f1.Nodup ∧ (∀ a ∈ f1, H a = none) ∧ (∀ a ∈ f1, a ∉ f2) ∧ VM G fp H H' r vr f2
  | (d, some i) :: r, vs, f => ∃ v vr f2, vs = v :: vr ∧ f = fp i ++ f2 ∧ OT G H' d v (fp i) ∧ VM G fp H H' r vr f2
def tM (G : Cts) (W : WX) (f : EM) : TA := fun σ H Q => ∃ fp fv ρ, LSR G fp fv σ H ρ ∧ match f ρ with
  | .ok ps => ∀ vs H' f, Same H H' → VM G fp H H' ps vs f → Q vs H'
  | .ex e => ∀ H', Same H H' → W (.ref (G.cls e)) none σ H'
  | .bad => False
section
variable {X : Cx} {G : Cts} {W : WX}
theorem VM.reps {fp : Nat → List Addr} {H H' : Hp} : ∀ {ps : List (D × Option Nat)} {vs : List V} {f : List Addr}, VM G fp H H' ps vs f → OTs G H' (ps.map (·.1)) vs f
  | [], vs, f, h => h
  | (d, none) :: r, vs, f, ⟨v, vr, f1, f2, e1, e2, o, _, _, _, h⟩ => ⟨v, vr, f1, f2, e1, e2, o, VM.reps h⟩
  | (d, some i) :: r, vs, f, ⟨v, vr, f2, e1, e2, o, h⟩ => ⟨v, vr, fp i, f2, e1, e2, o, VM.reps h⟩
theorem VM.src {fp : Nat → List Addr} {H H' : Hp} : ∀ {ps : List (D × Option Nat)} {vs : List V} {f : List Addr}, VM G fp H H' ps vs f → ∀ a ∈ f, (∃ i ∈ mvs ps, a ∈ fp i) ∨ H a = none
  | [], vs, f, h, a, ha => by
    rw [h.2] at ha
    cases ha
  | (d, none) :: r, vs, f, ⟨v, vr, f1, f2, e1, e2, o, _, n, _, h⟩, a, ha => by
    subst e2
    rcases List.mem_append.mp ha with z | z
    · exact .inr (n a z)
    · exact VM.src h a z
  | (d, some i) :: r, vs, f, ⟨v, vr, f2, e1, e2, o, h⟩, a, ha => by
    subst e2
    rcases List.mem_append.mp ha with z | z
    · exact .inl ⟨i, List.mem_cons_self, z⟩
    · exact (VM.src h a z).imp (fun ⟨j, hj, q⟩ => ⟨j, List.mem_cons_of_mem _ hj, q⟩) id
theorem VM.back {fp : Nat → List Addr} {H H1 H' : Hp} (e : Same H H1) : ∀ {ps : List (D × Option Nat)} {vs : List V} {f : List Addr}, VM G fp H1 H' ps vs f → VM G fp H H' ps vs f
  | [], vs, f, h => h
  | (d, none) :: r, vs, f, ⟨v, vr, f1, f2, e1, e2, o, q, n, dj, h⟩ => ⟨v, vr, f1, f2, e1, e2, o, q, fun a ha => e.free (n a ha), dj, VM.back e h⟩
  | (d, some i) :: r, vs, f, ⟨v, vr, f2, e1, e2, o, h⟩ => ⟨v, vr, f2, e1, e2, o, VM.back e h⟩
theorem VM.nd {fp : Nat → List Addr} {fv : Nat → Option V} {σ : L2.St} {ρ : Rho} {H H' : Hp} (I : LSR G fp fv σ H ρ) : ∀ {ps : List (D × Option Nat)} {vs : List V} {f : List Addr}, VM G fp H H' ps vs f → (mvs ps).Nodup → f.Nodup
  | [], vs, f, h, _ => by
    rw [h.2]
    exact List.nodup_nil
  | (d, none) :: r, vs, f, ⟨v, vr, f1, f2, e1, e2, o, q, n, dj, h⟩, hn => by
    subst e2
    exact List.nodup_append.mpr ⟨q, VM.nd I h hn, fun x hx y hy z => dj x hx (z ▸ hy)⟩
  | (d, some i) :: r, vs, f, ⟨v, vr, f2, e1, e2, o, h⟩, hn => by
    subst e2
    have hn' := List.nodup_cons.mp hn
    refine List.nodup_append.mpr ⟨I.nd i, VM.nd I h hn'.2, fun x hx y hy z => ?_⟩
    subst z
    rcases VM.src h x hy with ⟨j, hj, q⟩ | q
    · exact I.dj i j (fun e => hn'.1 (e ▸ hj)) x hx q
    · obtain ⟨u, hu⟩ := I.al i x hx
      rw [q] at hu
      cases hu
theorem px_mNil : PA X [] (tM G W mNil) := PA.of pa_nil fun σ H Q ⟨fp, fv, ρ, I, q⟩ => q [] H [] (Same.refl H) ⟨rfl, rfl⟩
theorem px_mEv {e : Expr} {es : List Expr} {f : E} {g : EM} (h : PE X e (tE G W f)) (hs : PA X es (tM G W g)) (hst : starEach (e :: es) X.env = (false, eval e X.env) :: starEach es X.env := by rfl) : PA X (e :: es) (tM G W (mEv f g)) := by
  refine PA.of (pa_cons h hs hst) fun σ H Q ⟨fp, fv, ρ, I, q⟩ => ?_
  unfold mEv at q
  refine ⟨fp, fv, ρ, I, ?_⟩
  cases z : f ρ with
  | ex e =>
    rw [z] at q
    exact q
  | bad =>
    rw [z] at q
    exact q
  | ok a =>
    obtain ⟨d, m⟩ := a
    rw [z] at q
    intro v H1 e1 v1
    refine ⟨fp, fv, ρ, I.same e1, ?_⟩
    cases z2 : g ρ with
    | ex e =>
      simp only [R.bind, z2] at q
      exact fun H' e' => q H' (e1.trans e')
    | bad =>
      simp only [R.bind, z2] at q
    | ok b =>
      simp only [R.bind, z2] at q
      intro vs H2 f2 e2 hv
      have v2 := v1.nrm
      cases w : md d m with
      | sh =>
        rw [w] at q
        exact q.elim
      | tr =>
        rw [w] at q
        exact q.elim
      | fr =>
        rw [w] at q v2
        obtain ⟨f1, o, n1, a1⟩ := v2
        refine q (v :: vs) H2 (f1 ++ f2) (e1.trans e2) ⟨v, vs, f1, f2, rfl, rfl, OT.same e2 o, n1, a1, fun a ha hb => ?_, VM.back e1 hv⟩
        rcases VM.src hv a hb with ⟨i, _, hi⟩ | hn
        · obtain ⟨u, hu⟩ := I.al i a hi
          rw [a1 a ha] at hu
          cases hu
        · obtain ⟨u, hu, _⟩ := OT.there d v f1 o a ha
          rw [hn] at hu
          cases hu
theorem px_mMv {e : Expr} {es : List Expr} {i : Nat} {g : EM} (h : PE X e (tVar i)) (hs : PA X es (tM G W g)) (hst : starEach (e :: es) X.env = (false, eval e X.env) :: starEach es X.env := by rfl) : PA X (e :: es) (tM G W (mMv i g)) := by
  refine PA.of (pa_cons h hs hst) fun σ H Q ⟨fp, fv, ρ, I, q⟩ => ?_
  unfold mMv at q
  cases e : ρ[i]? with
  | none =>
    rw [e] at q
    exact q.elim
  | some s =>
    rw [e] at q
    have r := I.sl i s e
    cases s with
    | nil => exact q.elim
    | io d => exact q.elim
    | exc _ => exact q.elim
    | own d =>
      obtain ⟨v, hv, o⟩ := r
      refine ⟨v, hv, fp, fv, ρ, I, ?_⟩
      cases z2 : g ρ with
      | ex e =>
        simp only [R.bind, z2] at q
        exact q
      | bad =>
        simp only [R.bind, z2] at q
      | ok b =>
        simp only [R.bind, z2] at q
        exact fun vs H2 f2 e2 hv => q (v :: vs) H2 (fp i ++ f2) e2 ⟨v, vs, f2, rfl, rfl, OT.same e2 o, hv⟩
    | shr d =>
      obtain ⟨v, hv, o⟩ := r
      by_cases im : d.imm = true
      · simp only [im, if_true] at q
        refine ⟨v, hv, fp, fv, ρ, I, ?_⟩
        cases z2 : g ρ with
        | ex e =>
          simp only [R.bind, z2] at q
          exact q
        | bad =>
          simp only [R.bind, z2] at q
        | ok b =>
          simp only [R.bind, z2] at q
          exact fun vs H2 f2 e2 hv => q (v :: vs) H2 ([] ++ f2) e2 ⟨v, vs, [], f2, rfl, rfl, Rep.own d v im (o.same e2), List.nodup_nil, (fun _ z => by cases z), (fun _ z => by cases z), hv⟩
      · simp only [im] at q
        exact q.elim
theorem FSR.nils {H0 H : Hp} {io : Addr → Prop} {fp : Nat → List Addr} {fv : Nat → Option V} {σ : L2.St} {ρ : Rho} (I : FSR G H0 io fp fv σ H ρ) : ∀ is : List Nat, ∃ fp', FSR G H0 io fp' fv σ H (nilAll ρ is) ∧ ∀ j a, a ∈ fp' j → a ∈ fp j ∧ (j < ρ.length → j ∉ is)
  | [] => ⟨fp, I, fun j a h => ⟨h, fun _ z => by cases z⟩⟩
  | i :: is => by
    obtain ⟨fp', J, k⟩ := FSR.nils I is
    have len : ∀ is : List Nat, (nilAll ρ is).length = ρ.length := fun is => by
      induction is with
      | nil => rfl
      | cons i is ih =>
        unfold nilAll
        rw [List.length_set, ih]
    by_cases hi : i < (nilAll ρ is).length
    · refine ⟨upF fp' i [], J.mut hi (fun _ _ _ h => h) Tk.refl List.nodup_nil (fun _ z => by cases z) (fun _ z => by cases z) trivial, fun j a ha => ?_⟩
      by_cases z : j = i
      · subst z
        rw [upF_same] at ha
        cases ha
      · rw [upF_ne z] at ha
        obtain ⟨h1, h2⟩ := k j a ha
        exact ⟨h1, fun hj hm => (List.mem_cons.mp hm).elim z (h2 hj)⟩
    · refine ⟨fp', ?_, fun j a ha => ?_⟩
      · unfold nilAll
        rw [List.set_eq_of_length_le (by omega)]
        exact J
      · obtain ⟨h1, h2⟩ := k j a ha
        refine ⟨h1, fun hj hm => (List.mem_cons.mp hm).elim (fun e => ?_) (h2 hj)⟩
        rw [len] at hi
        omega
theorem px_retM {es : List Expr} {kk : Nat} {pos pos2 : Pos} {g : EM} (h : PA X es (tM G W g)) : PS X (.Return (some (.Tuple es kk pos)) pos2) (tS G W (sRetM g)) := by
  refine PS.of (ps_ret (pe_tup h)) fun D' σ H ⟨H0, io, fp, fv, ρ, I, q⟩ => ?_
  unfold sRetM at q
  refine ⟨fp, fv, ρ, I.l, ?_⟩
  cases z : g ρ with
  | ex e =>
    rw [z] at q
    exact fun H' e' => q σ H' fp (I.same e')
  | bad =>
    rw [z] at q
    exact q
  | ok ps =>
    rw [z] at q
    have q : SK G W H0 io fv D' (if (mvs ps).Nodup ∧ ps.length ≤ 1000000 ∧ (∀ i ∈ mvs ps, i < ρ.length) then .rt (.tup (ps.map (·.1))) (nilAll ρ (mvs ps)) else .bad) := q
    intro vs H1 f e1 hv
    by_cases c : (mvs ps).Nodup ∧ ps.length ≤ 1000000 ∧ (∀ i ∈ mvs ps, i < ρ.length)
    · rw [if_pos c] at q
      have o := VM.reps hv
      have ln : vs.length ≤ 1000000 := by
        rw [← (OTs.rl o).length, List.length_map]
        exact c.2.1
      refine ⟨line_big ln, fun p hp => q _ _ ?_⟩
      have e2 : Same H1 (upd H1 p (.tup vs)) := same_new hp
      obtain ⟨fp', J, k⟩ := FSR.nils (I.same (e1.trans e2)) (mvs ps)
      refine ⟨σ, fp', f, J, ⟨p, vs, rfl, SqT.of upd_same, OTs.same e2 o⟩, VM.nd I.l hv c.1, fun a ha => ⟨?_, fun j hj => ?_⟩⟩
      · rcases VM.src hv a ha with ⟨i, _, hi⟩ | hn
        · exact I.src i a hi
        · exact I.fresh hn
      · obtain ⟨h1, h2⟩ := k j a hj
        rcases VM.src hv a ha with ⟨i, hm, hi⟩ | hn
        · by_cases ej : i = j
          · subst ej
            exact h2 (c.2.2 i hm) hm
          · exact I.l.dj i j ej a hi h1
        · obtain ⟨u, hu⟩ := I.l.al j a h1
          rw [hn] at hu
          cases hu
    · rw [if_neg c] at q
      exact q.elim
end
@[simp] theorem mNil_eq (ρ : Rho) : mNil ρ = .ok [] := rfl
/-- what may be handed back as new -/
def Md.fresh {α : Type} : Md → R α → R α
  | .fr, r => r
  | _, _ => .bad
@[simp] theorem fresh_fr {α : Type} (r : R α) : Md.fresh .fr r = r := rfl
@[simp] theorem mEv_eq (f : E) (g : EM) (ρ : Rho) : mEv f g ρ = (f ρ).bind fun a => (g ρ).bind fun b => Md.fresh (md a.1 a.2) (.ok ((a.1, none) :: b)) := by
  unfold mEv
  cases f ρ with
  | ok a =>
    simp only [R.bind]
    cases g ρ with
    | ok b =>
      simp only
      cases md a.1 a.2 <;> rfl
    | ex e => rfl
    | bad => rfl
  | ex e => rfl
  | bad => rfl
/-- a slot's part -/
def Sl.mv (i : Nat) (s : Option Sl) (r : R (List (D × Option Nat))) : R (List (D × Option Nat)) := match s with
  | some (.own d) => r.bind fun b => .ok ((d, some i) :: b)
  | some (.shr d) => if d.imm = true then r.bind fun b => .ok ((d, none) :: b) else .bad
  | _ => .bad
@[simp] theorem mv_own (i : Nat) (d : D) (r : R (List (D × Option Nat))) : Sl.mv i (some (.own d)) r = r.bind fun b => .ok ((d, some i) :: b) := rfl
@[simp] theorem mv_shr (i : Nat) (d : D) (r : R (List (D × Option Nat))) : Sl.mv i (some (.shr d)) r = if d.imm = true then r.bind fun b => .ok ((d, none) :: b) else .bad := rfl
@[simp] theorem mMv_eq (i : Nat) (g : EM) (ρ : Rho) : mMv i g ρ = Sl.mv i ρ[i]? (g ρ) := rfl
def onM (r : R (List (D × Option Nat))) (ρ : Rho) : SO := match r with
  | .ok ps => if (mvs ps).Nodup ∧ ps.length ≤ 1000000 ∧ (∀ i ∈ mvs ps, i < ρ.length) then .rt (.tup (ps.map (·.1))) (nilAll ρ (mvs ps)) else .bad
  | .ex e => .ex e ρ
  | .bad => .bad
@[simp] theorem sRetM_eq (g : EM) (ρ : Rho) : sRetM g ρ = onM (g ρ) ρ := rfl
@[simp] theorem onM_ok (ps : List (D × Option Nat)) (ρ : Rho) : onM (.ok ps) ρ = if (mvs ps).Nodup ∧ ps.length ≤ 1000000 ∧ (∀ i ∈ mvs ps, i < ρ.length) then .rt (.tup (ps.map (·.1))) (nilAll ρ (mvs ps)) else .bad := rfl
@[simp] theorem mvs_nil : mvs [] = [] := rfl
@[simp] theorem mvs_none (d : D) (r : List (D × Option Nat)) : mvs ((d, none) :: r) = mvs r := rfl
@[simp] theorem mvs_some (d : D) (i : Nat) (r : List (D × Option Nat)) : mvs ((d, some i) :: r) = i :: mvs r := rfl
end Dn
set_option Elab.async false
set_option linter.all false
set_option maxRecDepth 100000
set_option maxHeartbeats 2000000
/-! Dn33: is, is not: of None and of truths. -/
namespace Dn
open PySem L2
def isB (a b : D) : Option Bool := match b with
  | .non => some a.isN
  | .bl y => (match a with
    | .bl x => some (x == y)
    | _ => none)
  | _ => none
def oIsX : D → D → Option D := fun a b => (isB a b).map .bl
def oIsnX : D → D → Option D := fun a b => (isB a b).map fun z => .bl (!z)
def rIsX : R2 := fun x y H Q => rIs x y H Q ∨ (fun x y H Q => ∃ a b, x = .bl a ∧ y = .bl b ∧ Q (.bl (decide (a = b))) H) x y H Q
def rIsnX : R2 := fun x y H Q => rIsn x y H Q ∨ (fun x y H Q => ∃ a b, x = .bl a ∧ y = .bl b ∧ Q (.bl (!decide (a = b))) H) x y H Q
section
variable {X : Cx} {G : Cts} {W : WX}
theorem op_isX : OpR X (compareOp .Is) rIsX := op_is'.or op_is_bl
theorem op_isnX : OpR X (compareOp .IsNot) rIsnX := op_isn'.or op_isnot_bl
theorem dec_beq (a b : Bool) : decide (a = b) = (a == b) := by cases a <;> cases b <;> rfl
theorem op2_isX : Op2 G rIsX oIsX := by
  intro x y d e H hx hy c hc Q k
  unfold oIsX at hc
  cases e with
  | non => exact .inl (op2_is x y d .non H hx hy c hc Q k)
  | bl b =>
    cases d with
    | bl a =>
      cases hc
      obtain rfl : x = .bl a := hx
      obtain rfl : y = .bl b := hy
      refine .inr ⟨a, b, rfl, rfl, ?_⟩
      rw [dec_beq]
      exact k _ H (Same.refl H) Fresh.bl
    | _ => cases hc
  | _ => cases hc
theorem op2_isnX : Op2 G rIsnX oIsnX := by
  intro x y d e H hx hy c hc Q k
  unfold oIsnX at hc
  cases e with
  | non => exact .inl (op2_isn x y d .non H hx hy c hc Q k)
  | bl b =>
    cases d with
    | bl a =>
      cases hc
      obtain rfl : x = .bl a := hx
      obtain rfl : y = .bl b := hy
      refine .inr ⟨a, b, rfl, rfl, ?_⟩
      rw [dec_beq]
      exact k _ H (Same.refl H) Fresh.bl
    | _ => cases hc
  | _ => cases hc
end
@[simp] theorem oIsX_non (a : D) : oIsX a .non = some (.bl a.isN) := rfl
@[simp] theorem oIsnX_non (a : D) : oIsnX a .non = some (.bl (!a.isN)) := rfl
@[simp] theorem oIsX_bl (a b : Bool) : oIsX (.bl a) (.bl b) = some (.bl (a == b)) := rfl
@[simp] theorem oIsnX_bl (a b : Bool) : oIsnX (.bl a) (.bl b) = some (.bl (!(a == b))) := rfl
end Dn
set_option Elab.async false
set_option linter.all false
set_option maxRecDepth 100000
set_option maxHeartbeats 2000000
/-! Dn34: dict displays reckoned. -/
namespace Dn
open PySem L2
def Md.frD (m : Md) (d : D) : R (D × Md) := match m with
  | .fr => .ok (d, .fr)
  | _ => .bad
@[simp] theorem frD_fr (d : D) : Md.frD .fr d = .ok (d, .fr) := rfl
theorem eDct_eq (kfs : List (Key × E)) (ρ : Rho) : eDct kfs ρ = (dctL kfs ρ).bind fun a => if (kfs.map (·.1)).Nodup ∧ kfs.length ≤ 15 then a.2.frD (.dct (kfs.map (·.1)) a.1) else .bad := rfl
@[simp] theorem dctL_nil (ρ : Rho) : dctL [] ρ = .ok ([], .fr) := rfl
@[simp] theorem dctL_cons (k : Key) (f : E) (r : List (Key × E)) (ρ : Rho) : dctL ((k, f) :: r) ρ = eCons f (dctL r) ρ := rfl
@[simp] theorem lkD_cons (k : Key) (ks : List Key) (d : D) (ds : List D) (j : Key) : lkD (k :: ks) (d :: ds) j = if k = j then some d else lkD ks ds j := rfl
@[simp] theorem lkD_nil (ds : List D) (j : Key) : lkD [] ds j = none := rfl
@[simp] theorem tx_eq (a b : List Nat) : (tx a = tx b) = (a = b) := propext ⟨tx_inj, fun e => e ▸ rfl⟩
@[simp] theorem jn_sh1 : Md.jn .sh .fr = .sh := rfl
@[simp] theorem jn_sh3 : Md.jn .sh .sh = .sh := rfl
@[simp] theorem jn_sh4 : Md.jn .sh .tr = .tr := rfl
def zipR (m : Md) (ds : List D) : R (List D) := match ds with
  | [x, y] => (match m with
    | .tr => if x.imm = true ∧ y.imm = true then R.opt (zipD x y) else .bad
    | _ => R.opt (zipD x y))
  | _ => .bad
theorem itZip_eq (g : EA) (ρ : Rho) : itZip g ρ = (g ρ).bind fun a => zipR a.2 a.1 := rfl
@[simp] theorem zipR_fr (x y : D) : zipR .fr [x, y] = R.opt (zipD x y) := rfl
@[simp] theorem zipR_sh (x y : D) : zipR .sh [x, y] = R.opt (zipD x y) := rfl
@[simp] theorem zipR_tr (x y : D) : zipR .tr [x, y] = if x.imm = true ∧ y.imm = true then R.opt (zipD x y) else .bad := rfl
theorem lcL_cons (st : Tg) (t : T) (f : E) (ρ : Rho) (d : D) (ds : List D) : lcL st t f ρ (d :: ds) = match st d ρ with
    | none => .bad
    | some ρ1 => (t ρ1).nox.bind fun b => if b = true then (f ρ1).nox.bind fun x => if ntr (md x.1 x.2) = true then (lcL st t f ρ ds).bind fun y => .ok (x.1 :: y.1, Md.jn (md x.1 x.2) y.2) else .bad else lcL st t f ρ ds := rfl
end Dn
set_option Elab.async false
set_option linter.all false
set_option maxRecDepth 100000
set_option maxHeartbeats 2000000
/-! Dn35: written texts by their signs; sizes of numbers. -/
namespace Dn
open PySem L2
/-- the small letters -/
def abc : List Nat := [97, 98, 99, 100, 101, 102, 103, 104, 105, 106, 107, 108, 109, 110, 111, 112, 113, 114, 115, 116, 117, 118, 119, 120, 121, 122]
section
variable {X : Cx} {G : Cts} {W : WX}
theorem px_strL {i k : Str} {j pos} (h : i = k) : PE X (.Constant (.str i) j pos) (tE G W (eC (.str k))) := h ▸ px_str
theorem pe_strL {i k : Str} {j pos} (h : i = k) : PE X (.Constant (.str i) j pos) (tC (.str k)) := h ▸ pe_str
theorem Cst.strL {mg : Str → Option Value} {x : Str} {i k : Str} {t : Tok} (e : i = k) (h : mg x = some (.str i t)) : Cst G mg x (.str k) := e ▸ Cst.str h
end
/-! ### bits -/
theorem intBits_le {i : Int} {n : Nat} (h : i.natAbs < 2 ^ n) : Builtin.Int.intBits i ≤ n := by
  unfold Builtin.Int.intBits
  split
  · exact Nat.zero_le _
  · rename_i h0
    have h1 : i ≠ 0 := fun z => h0 (by rw [z]; rfl)
    have : i.natAbs.log2 < n := (Nat.log2_lt (by omega)).mpr h
    omega
theorem intBits_lt (i : Int) : i.natAbs < 2 ^ (Builtin.Int.intBits i) := by
  unfold Builtin.Int.intBits
  split
  · rename_i h0
    have h1 : i = 0 := by simpa using h0
    rw [h1]
    decide
  · exact Nat.lt_log2_self
theorem BitsOk.get {ns : List Int} (h : BitsOk ns) {z : Int} (hz : z ∈ ns) : Builtin.Int.intBits z ≤ 1048576 := by
  unfold BitsOk at h
  exact h z hz
/-- a bounded number -/
@[irreducible] def Sz (n : Nat) (i : Int) : Prop := i.natAbs < 2 ^ n
theorem Sz.of_bits {i : Int} {n : Nat} (h : Builtin.Int.intBits i ≤ n) : Sz n i := by
  unfold Sz
  exact Nat.lt_of_lt_of_le (intBits_lt i) (Nat.pow_le_pow_right (by decide) h)
theorem Sz.bits {i : Int} {n : Nat} (h : Sz n i) : Builtin.Int.intBits i ≤ n := by
  unfold Sz at h
  exact intBits_le h
theorem Sz.mul {i j : Int} {m n : Nat} (h : Sz m i) (k : Sz n j) : Sz (m + n) (i * j) := by
  unfold Sz at *
  rw [Int.natAbs_mul, Nat.pow_add]
  exact Nat.mul_lt_mul'' h k
theorem Sz.le {i : Int} {m n : Nat} (h : Sz m i) (k : m ≤ n) : Sz n i := by
  unfold Sz at *
  exact Nat.lt_of_lt_of_le h (Nat.pow_le_pow_right (by decide) k)
theorem Sz.add {i j : Int} {n : Nat} (h : Sz n i) (k : Sz n j) : Sz (n + 1) (i + j) := by
  unfold Sz at *
  have := Int.natAbs_add_le i j
  rw [Nat.pow_succ]
  omega
theorem Sz.small {i : Int} (h : -4294967296 < i ∧ i < 4294967296) : Sz 32 i := by
  unfold Sz
  omega
theorem Sz.wd {i j : Int} {m n : Nat} (h : Sz m i) (k : Sz n j) (l : m + n ≤ 10000000) : wd i j = true := by
  have := h.bits
  have := k.bits
  exact wd_of (by omega)
end Dn
set_option Elab.async false
set_option linter.all false
set_option maxRecDepth 100000
set_option maxHeartbeats 2000000
/-! Dn36: helps for reckoning: joined texts, letters, loops as folds. -/
namespace Dn
open PySem L2
/-! ### statements on slots, for simp -/
def Sl.rix (i : Nat) (kf : E) (ρ : Rho) (s : Option Sl) : SO := match s with
  | some (.own s) => onE (kf ρ) ρ fun k _ => (match ixD s k with
    | some d => .rt d (ρ.set i .nil)
    | none => .bad)
  | _ => sRet (eIx (eVar i) kf) ρ
@[simp] theorem sRetIx_eq (i : Nat) (kf : E) (ρ : Rho) : sRetIx i kf ρ = Sl.rix i kf ρ ρ[i]? := rfl
def SO.ort (r : R D) (ρ : Rho) : SO := match r with
  | .ok d => .rt d ρ
  | _ => .bad
@[simp] theorem ort_ok (d : D) (ρ : Rho) : SO.ort (.ok d) ρ = .rt d ρ := rfl
@[simp] theorem rix_own (i : Nat) (kf : E) (ρ : Rho) (s : D) : Sl.rix i kf ρ (some (.own s)) = onE (kf ρ) ρ fun k _ => SO.ort (R.opt (ixD s k)) (ρ.set i .nil) := by
  show (onE (kf ρ) ρ fun k _ => (match ixD s k with
    | some d => .rt d (ρ.set i .nil)
    | none => .bad)) = _
  congr 1
  funext k m
  cases ixD s k <;> rfl
@[simp] theorem rix_shr (i : Nat) (kf : E) (ρ : Rho) (s : D) : Sl.rix i kf ρ (some (.shr s)) = sRet (eIx (eVar i) kf) ρ := rfl
def Sl.app (i : Nat) (f : E) (ρ : Rho) (s : Option Sl) : SO := match Sl.mine s with
  | some (.lst xs) => onE (f ρ) ρ fun d m => Md.need (md d m) (if xs.length < 1000000 then .nx (ρ.set i (Sl.re s (.lst (xs ++ [d])))) else .bad)
  | _ => .bad
@[simp] theorem sApp_eq (i : Nat) (f : E) (ρ : Rho) : sApp i f ρ = Sl.app i f ρ ρ[i]? := by
  unfold sApp Sl.app
  rfl
@[simp] theorem app_own (i : Nat) (f : E) (ρ : Rho) (xs : List D) : Sl.app i f ρ (some (.own (.lst xs))) = onE (f ρ) ρ fun d m => Md.need (md d m) (if xs.length < 1000000 then .nx (ρ.set i (.own (.lst (xs ++ [d])))) else .bad) := rfl
def Sl.ins (i : Nat) (kf vf : E) (ρ : Rho) (s : Option Sl) : SO := match Sl.mine s with
  | some (.lst xs) => onE (kf ρ) ρ fun k _ => onE (vf ρ) ρ fun d _ => onI ((k.place).bind fun j => match j with | some j => .ok [D.int j] | none => .bad) ρ fun js => (match js with
    | [.int j] => if D.imms xs = true ∧ d.imm = true ∧ xs.length < 1000000 ∧ 0 ≤ j ∧ j ≤ 1000000 then .nx (ρ.set i (Sl.re s (.lst (xs.take j.toNat ++ [d] ++ xs.drop j.toNat)))) else .bad
    | _ => .bad)
  | _ => .bad
theorem sIns_own {i : Nat} {kf vf : E} {ρ : Rho} {xs : List D} {j : Int} {d : D} {m m' : Md} (h : ρ[i]? = some (.own (.lst xs))) (hk : kf ρ = .ok (.int j, m)) (hv : vf ρ = .ok (d, m')) (c : D.imms xs = true ∧ d.imm = true ∧ xs.length < 1000000 ∧ 0 ≤ j ∧ j ≤ 1000000) :
    sIns i kf vf ρ = .nx (ρ.set i (.own (.lst (xs.take j.toNat ++ [d] ++ xs.drop j.toNat)))) := by
  unfold sIns
  simp only [h, mine_own, hk, hv, onE_ok, re_own]
  rw [if_pos c]
def SO.ost (r : R D) (f : D → Rho) : SO := match r with
  | .ok d => .nx (f d)
  | _ => .bad
@[simp] theorem ost_ok (d : D) (f : D → Rho) : SO.ost (.ok d) f = .nx (f d) := rfl
def Sl.seti (i : Nat) (kf vf : E) (ρ : Rho) (s : Option Sl) : SO := match Sl.mine s with
  | some s' => if s'.isL = true ∨ s'.isD = true then onE (vf ρ) ρ fun d _ => onE (kf ρ) ρ fun k _ => SO.ost (R.opt (setD s' k d)) fun z => ρ.set i (Sl.re s z) else .bad
  | none => .bad
@[simp] theorem sSetI_eq (i : Nat) (kf vf : E) (ρ : Rho) : sSetI i kf vf ρ = Sl.seti i kf vf ρ ρ[i]? := by
  unfold sSetI Sl.seti
  cases Sl.mine ρ[i]? with
  | none => rfl
  | some s =>
    simp only
    congr 1
    congr 1
    funext d m
    congr 1
    funext k m'
    cases setD s k d <;> rfl
@[simp] theorem seti_lst (i : Nat) (kf vf : E) (ρ : Rho) (xs : List D) : Sl.seti i kf vf ρ (some (.own (.lst xs))) = onE (vf ρ) ρ fun d _ => onE (kf ρ) ρ fun k _ => SO.ost (R.opt (setD (.lst xs) k d)) fun z => ρ.set i (.own z) := rfl
@[simp] theorem seti_dct (i : Nat) (kf vf : E) (ρ : Rho) (ks : List Key) (xs : List D) : Sl.seti i kf vf ρ (some (.own (.dct ks xs))) = onE (vf ρ) ρ fun d _ => onE (kf ρ) ρ fun k _ => SO.ost (R.opt (setD (.dct ks xs) k d)) fun z => ρ.set i (.own z) := rfl
@[simp] theorem setD_dct (ks : List Key) (ds : List D) (k d : D) : setD (.dct ks ds) k d = k.key.bind fun kk => if D.imms ds = true ∧ d.imm = true ∧ ks.length < 1000000 then some (.dct (putKs ks kk) (putDs ks ds kk d)) else none := by
  unfold setD
  simp only
  cases k.key <;> rfl
theorem setD_lst {xs : List D} {j : Int} {d : D} (h0 : 0 ≤ j) (h1 : j < xs.length) (h2 : D.imms xs = true) (h3 : d.imm = true) : setD (.lst xs) (.int j) d = some (.lst (xs.set j.toNat d)) := by
  unfold setD
  have : ixN xs.length j = some j.toNat := by
    unfold ixN
    rw [if_pos h0, if_pos h1]
  simp only [this]
  rw [if_pos ⟨h2, h3⟩]
/-- a slot as comprehensions see it -/
def Sl.fz : Sl → Sl
  | .own d => .shr d
  | .io d => .shr d
  | .exc _ => .nil
  | s => s
@[simp] theorem fz_shr (d : D) : Sl.fz (.shr d) = .shr d := rfl
@[simp] theorem fz_own (d : D) : Sl.fz (.own d) = .shr d := rfl
@[simp] theorem fz_io (d : D) : Sl.fz (.io d) = .shr d := rfl
@[simp] theorem fz_nil : Sl.fz .nil = .nil := rfl
@[simp] theorem fz_exc (e : Nat) : Sl.fz (.exc e) = .nil := rfl
@[simp] theorem frzA_cons (s : Sl) (ρ : Rho) : frzA (s :: ρ) = s.fz :: frzA ρ := by
  cases s <;> rfl
@[simp] theorem free_fz (s : Sl) : free (some s.fz) := by cases s <;> exact trivial
/-- x or y, by what is there -/
def R.orD (o : Option D) (m : Md) (c : D × Md) : R (D × Md) := match o with
  | some d => .ok (d, m)
  | none => .ok c
@[simp] theorem orD_some (d : D) (m : Md) (c : D × Md) : R.orD (some d) m c = .ok (d, m) := rfl
@[simp] theorem orD_none (m : Md) (c : D × Md) : R.orD none m c = .ok c := rfl
def eGetK (g h : E) (ρ : Rho) (a : D × Md) : R (D × Md) := match a.1 with
  | .dct ks ds => (g ρ).bind fun b => (h ρ).bind fun c => (R.opt b.1.key).bind fun k => R.orD (lkD ks ds k) a.2 c
  | _ => .bad
@[simp] theorem eGet2_eq (f g h : E) (ρ : Rho) : eGet2 f g h ρ = (f ρ).bind (eGetK g h ρ) := by
  unfold eGet2
  congr 1
@[simp] theorem eGetK_dct (g h : E) (ρ : Rho) (ks : List Key) (ds : List D) (m : Md) : eGetK g h ρ (.dct ks ds, m) = (g ρ).bind fun b => (h ρ).bind fun c => (R.opt b.1.key).bind fun k => R.orD (lkD ks ds k) m c := rfl
theorem fSeq_nx {f g : S} {ρ ρ' : Rho} (h : f ρ = .nx ρ') : fSeq f g ρ = g ρ' := by rw [fSeq_eq, h, SO.go_nx]
theorem fSeq_nx2 {f g h : S} {ρ ρ' : Rho} (e : fSeq f g ρ = .nx ρ') : fSeq f (fSeq g h) ρ = h ρ' := by
  rw [fSeq_eq] at e ⊢
  cases q : f ρ <;> rw [q] at e <;> first | (cases e) | skip
  simp only [SO.go_nx] at e ⊢
  exact fSeq_nx e
@[simp] theorem eqv_non_int  (i : Int) : D.eqv .non (.int i) = false := rfl
@[simp] theorem eqv_non_str  (s : Str) : D.eqv .non (.str s) = false := rfl
@[simp] theorem eqv_non_tup  (t : List D) : D.eqv .non (.tup t) = false := rfl
@[simp] theorem eqv_non_lst  (l : List D) : D.eqv .non (.lst l) = false := rfl
@[simp] theorem eqv_non_bl  (b : Bool) : D.eqv .non (.bl b) = false := rfl
@[simp] theorem eqv_int_non (i : Int)  : D.eqv (.int i) .non = false := rfl
@[simp] theorem eqv_int_str (i : Int) (s : Str) : D.eqv (.int i) (.str s) = false := rfl
@[simp] theorem eqv_int_tup (i : Int) (t : List D) : D.eqv (.int i) (.tup t) = false := rfl
@[simp] theorem eqv_int_lst (i : Int) (l : List D) : D.eqv (.int i) (.lst l) = false := rfl
@[simp] theorem eqv_str_non (s : Str)  : D.eqv (.str s) .non = false := rfl
@[simp] theorem eqv_str_int (s : Str) (i : Int) : D.eqv (.str s) (.int i) = false := rfl
@[simp] theorem eqv_str_tup (s : Str) (t : List D) : D.eqv (.str s) (.tup t) = false := rfl
@[simp] theorem eqv_str_lst (s : Str) (l : List D) : D.eqv (.str s) (.lst l) = false := rfl
@[simp] theorem eqv_str_bl (s : Str) (b : Bool) : D.eqv (.str s) (.bl b) = false := rfl
@[simp] theorem eqv_tup_non (t : List D)  : D.eqv (.tup t) .non = false := rfl
@[simp] theorem eqv_tup_int (t : List D) (i : Int) : D.eqv (.tup t) (.int i) = false := rfl
@[simp] theorem eqv_tup_str (t : List D) (s : Str) : D.eqv (.tup t) (.str s) = false := rfl
@[simp] theorem eqv_tup_lst (t : List D) (l : List D) : D.eqv (.tup t) (.lst l) = false := rfl
@[simp] theorem eqv_tup_bl (t : List D) (b : Bool) : D.eqv (.tup t) (.bl b) = false := rfl
@[simp] theorem eqv_lst_non (l : List D)  : D.eqv (.lst l) .non = false := rfl
@[simp] theorem eqv_lst_int (l : List D) (i : Int) : D.eqv (.lst l) (.int i) = false := rfl
@[simp] theorem eqv_lst_str (l : List D) (s : Str) : D.eqv (.lst l) (.str s) = false := rfl
@[simp] theorem eqv_lst_tup (l : List D) (t : List D) : D.eqv (.lst l) (.tup t) = false := rfl
@[simp] theorem eqv_lst_bl (l : List D) (b : Bool) : D.eqv (.lst l) (.bl b) = false := rfl
@[simp] theorem eqv_bl_non (b : Bool)  : D.eqv (.bl b) .non = false := rfl
@[simp] theorem eqv_bl_str (b : Bool) (s : Str) : D.eqv (.bl b) (.str s) = false := rfl
@[simp] theorem eqv_bl_tup (b : Bool) (t : List D) : D.eqv (.bl b) (.tup t) = false := rfl
@[simp] theorem eqv_bl_lst (b : Bool) (l : List D) : D.eqv (.bl b) (.lst l) = false := rfl
@[simp] theorem eqv_int_bl (i : Int) (b : Bool) : D.eqv (.int i) (.bl b) = (i == if b then 1 else 0) := rfl
@[simp] theorem eqv_bl_int (i : Int) (b : Bool) : D.eqv (.bl b) (.int i) = ((if b then 1 else 0) == i) := rfl
/-- texts joined, by their signs -/
def joinL (s : List Nat) : List (List Nat) → List Nat
  | [] => []
  | [a] => a
  | a :: b :: r => a ++ s ++ joinL s (b :: r)
theorem join_tx (s : List Nat) : ∀ ls : List (List Nat), Txt.join (tx s) (ls.map tx) = tx (joinL s ls) := by
  intro ls
  unfold Txt.join
  rw [StrLaws.glued_eq_join]
  induction ls with
  | nil => rfl
  | cons a r ih =>
    cases r with
    | nil => rfl
    | cons b r =>
      show tx a ++ tx s ++ Str.join (tx s) (tx b :: r.map tx) = _
      have : Str.join (tx s) (tx b :: r.map tx) = tx (joinL s (b :: r)) := ih
      rw [this, tx_app, tx_app]
      rfl
theorem joinL_nil : ∀ ls : List (List Nat), joinL [] ls = ls.flatten
  | [] => rfl
  | [a] => by simp [joinL]
  | a :: b :: r => by
    unfold joinL
    rw [joinL_nil (b :: r)]
    simp
theorem strsOf_tx (ls : List (List Nat)) : strsOf (ls.map fun l => D.str (tx l)) = some (ls.map tx) := by
  rw [show (ls.map fun l => D.str (tx l)) = (ls.map tx).map .str by rw [List.map_map]; rfl, strsOf_map]
theorem oJoin_tx (s : List Nat) (ls : List (List Nat)) (h : (ls.map List.length).sum + ls.length * s.length ≤ 1000000) : oJoin (.str (tx s)) [.lst (ls.map fun l => D.str (tx l))] = some (.str (tx (joinL s ls))) := by
  have e : (ls.map tx).map (·.length) = ls.map List.length := by
    rw [List.map_map]
    apply List.map_congr_left
    intro l _
    simp
  show (((some (ls.map fun l => D.str (tx l))).bind strsOf).bind fun ss => if (ss.map (·.length)).sum + ss.length * (tx s).length ≤ 1000000 then some (D.str (Txt.join (tx s) ss)) else none) = _
  simp only [Option.bind_some, strsOf_tx, e, List.length_map, tx_len, h, if_true, join_tx]
/-! ### letters -/
theorem abc_at (i : Nat) (h : i < 26) : atI abc (i : Int) = some (97 + i) := by
  rw [atI_get' (by omega) (by show (i : Int) < 26; omega), Int.toNat_natCast, show abc = (List.range 26).map (97 + ·) from rfl, List.getElem?_map, List.getElem?_range h]
  rfl
theorem abc_len : abc.length = 26 := rfl
theorem abc_mem {i : Nat} (h : i < 26) : 97 + i ∈ abc := by
  rw [show abc = (List.range 26).map (97 + ·) from rfl]
  exact List.mem_map.mpr ⟨i, List.mem_range.mpr h, rfl⟩
theorem mem_abc {c : Nat} : c ∈ abc ↔ 97 ≤ c ∧ c ≤ 122 := by
  constructor
  · intro h
    rw [show abc = (List.range 26).map (97 + ·) from rfl] at h
    obtain ⟨i, h1, h2⟩ := List.mem_map.mp h
    have := List.mem_range.mp h1
    omega
  · intro h
    have : c = 97 + (c - 97) := by omega
    rw [this]
    exact abc_mem (by omega)
/-- a name: one to eight small letters -/
def isNm (l : List Nat) : Prop := 1 ≤ l.length ∧ l.length ≤ 8 ∧ ∀ c ∈ l, c ∈ abc
instance (l : List Nat) : Decidable (isNm l) := by unfold isNm; exact inferInstance
abbrev nmD (l : List Nat) : D := .str (tx l)
theorem inT_tx (c : Nat) (z : List Nat) : inT (tx [c]) (tx z) = decide (c ∈ z) := by rw [← tx_one, inT_sign, tx_cps]
theorem ints_range (n : Nat) : rngD 0 n = (List.range n).map fun i => D.int (i : Nat) := by
  unfold rngD
  apply List.map_congr_left
  intro i _
  rw [Int.zero_add]
/-! ### lists of names -/
@[simp] theorem imms_nms (L : List (List Nat)) : D.imms (L.map fun l => D.str (tx l)) = true := by
  induction L with
  | nil => rfl
  | cons a r ih => exact ih
@[simp] theorem pls_nms (n : Nat) (L : List (List Nat)) : D.pls n (L.map fun l => D.str (tx l)) = true := by
  induction L with
  | nil => simp
  | cons a r ih => simp [ih]
theorem any_nms (L : List (List Nat)) (a : List Nat) : ((L.map fun l => D.str (tx l)).any fun y => y.eqv (.str (tx a))) = decide (a ∈ L) := by
  induction L with
  | nil => rfl
  | cons b r ih =>
    rw [List.map_cons, List.any_cons, ih]
    simp only [eqv_str, tx_beq, List.mem_cons]
    by_cases e : b = a
    · subst e
      simp
    · have : ¬ a = b := fun z => e z.symm
      simp [e, this]
@[simp] theorem any_nms' (L : List (List Nat)) (a : List Nat) : L.any ((fun y => D.eqv y (.str (tx a))) ∘ fun l => D.str (tx l)) = decide (a ∈ L) := by
  rw [← any_nms L a, List.any_map]
theorem eqvs_nms (x y : List (List Nat)) : D.eqvs (x.map fun l => D.str (tx l)) (y.map fun l => D.str (tx l)) = decide (x = y) := by
  induction x generalizing y with
  | nil => cases y <;> simp
  | cons a x ih =>
    cases y with
    | nil => simp
    | cons b y =>
      simp only [List.map_cons, eqvs_cons, ih, eqv_str, tx_beq, List.cons.injEq, Bool.decide_and]
      congr 1
      by_cases e : a = b
      · simp [e]
      · simp [e]
theorem atI_nat' {α : Type} {xs : List α} {k : Nat} (h : k < xs.length) : atI xs (k : Int) = some xs[k] := by
  rw [atI_get' (by omega) (by omega), Int.toNat_natCast, List.getElem?_eq_getElem h]
/-- no list of names without repetition is longer than what it is out of -/
theorem nodup_le {α : Type} : ∀ (l D : List α), l.Nodup → (∀ x ∈ l, x ∈ D) → l.length ≤ D.length
  | [], _, _, _ => Nat.zero_le _
  | a :: l, D, h, k => by
    have ⟨h1, h2⟩ := List.nodup_cons.mp h
    obtain ⟨s, t, e⟩ := List.append_of_mem (k a List.mem_cons_self)
    have := nodup_le l (s ++ t) h2 fun x hx => by
      have hx' := k x (List.mem_cons_of_mem _ hx)
      rw [e] at hx'
      rcases List.mem_append.mp hx' with z | z
      · exact List.mem_append_left _ z
      · rcases List.mem_cons.mp z with z | z
        · subst z
          exact absurd hx h1
        · exact List.mem_append_right _ z
    rw [e]
    simp only [List.length_append, List.length_cons] at *
    omega
/-! ### the outcome has a property -/
def Gv (x : R D) (P : D → Prop) : Prop := ∃ d, x = .ok d ∧ P d
end Dn
set_option Elab.async false
set_option linter.all false
set_option maxRecDepth 100000
set_option maxHeartbeats 2000000
/-! Dn37: items. -/
namespace Dn
open PySem L2
inductive Mrk where
  | carry | nought | sign
  deriving DecidableEq
inductive TwoW where
  | copy | add | addc | sub | subc | and | or | xor | test
  deriving DecidableEq
inductive HeldW where
  | load | store | loadw | storew
  deriving DecidableEq
/-- an item, its parts as numbers and names -/
inductive Itm where
  | label (n : List Nat)
  | jump (n : List Nat)
  | cond (u : Bool) (m : Mrk) (n : List Nat)
  | wide (h : Bool) (d n : Nat)
  | two (w : TwoW) (d s : Nat)
  | mv (r : Bool) (d n : Nat)
  | held (w : HeldW) (d s n : Nat)
  | stop
  deriving DecidableEq
def Mrk.w : Mrk → List Nat
  | .carry => [99, 97, 114, 114, 121]
  | .nought => [110, 111, 117, 103, 104, 116]
  | .sign => [115, 105, 103, 110]
def TwoW.w : TwoW → List Nat
  | .copy => [99, 111, 112, 121]
  | .add => [97, 100, 100]
  | .addc => [97, 100, 100, 99]
  | .sub => [115, 117, 98]
  | .subc => [115, 117, 98, 99]
  | .and => [97, 110, 100]
  | .or => [111, 114]
  | .xor => [120, 111, 114]
  | .test => [116, 101, 115, 116]
def HeldW.w : HeldW → List Nat
  | .load => [108, 111, 97, 100]
  | .store => [115, 116, 111, 114, 101]
  | .loadw => [108, 111, 97, 100, 119]
  | .storew => [115, 116, 111, 114, 101, 119]
/-- the first word -/
def Itm.word : Itm → List Nat
  | .label _ => [108, 97, 98, 101, 108]
  | .jump _ => [106, 117, 109, 112]
  | .cond false _ _ => [119, 104, 101, 110]
  | .cond true _ _ => [117, 110, 108, 101, 115, 115]
  | .wide false _ _ => [115, 101, 116]
  | .wide true _ _ => [104, 105, 103, 104]
  | .two w _ _ => w.w
  | .mv false _ _ => [108, 101, 102, 116]
  | .mv true _ _ => [114, 105, 103, 104, 116]
  | .held w _ _ _ => w.w
  | .stop => [115, 116, 111, 112]
abbrev nD (n : Nat) : D := .int (n : Int)
def Itm.tl : Itm → List D
  | .label n => [.str (tx n)]
  | .jump n => [.str (tx n)]
  | .cond _ m n => [.str (tx m.w), .str (tx n)]
  | .wide _ d n => [nD d, nD n]
  | .two _ d s => [nD d, nD s]
  | .mv _ d n => [nD d, nD n]
  | .held _ d s n => [nD d, nD s, nD n]
  | .stop => []
def Itm.enc (i : Itm) : D := .tup (.str (tx i.word) :: i.tl)
/-- the bounds -/
def Itm.ok : Itm → Prop
  | .label n => isNm n
  | .jump n => isNm n
  | .cond _ _ n => isNm n
  | .wide _ d n => d < 8 ∧ n < 65536
  | .two _ d s => d < 8 ∧ s < 8
  | .mv _ d n => d < 8 ∧ n < 32
  | .held _ d s n => d < 8 ∧ s < 8 ∧ n < 256
  | .stop => True
def Itm.isLab : Itm → Bool
  | .label _ => true
  | _ => false
def Itm.isJmp : Itm → Bool
  | .jump _ => true
  | .cond _ _ _ => true
  | _ => false
/-- the name of a jump -/
def Itm.nm : Itm → List Nat
  | .label n => n
  | .jump n => n
  | .cond _ _ n => n
  | _ => []
@[simp] theorem imm_enc (i : Itm) : i.enc.imm = true := by
  cases i <;> rfl
@[simp] theorem pl_enc (i : Itm) (k : Nat) : i.enc.pl (k + 2) = true := by
  cases i <;> simp [Itm.enc, Itm.tl]
@[simp] theorem pl_enc9 (i : Itm) : i.enc.pl 9 = true := pl_enc i 7
@[simp] theorem pl_enc8 (i : Itm) : i.enc.pl 8 = true := pl_enc i 6
@[simp] theorem pl_enc7 (i : Itm) : i.enc.pl 7 = true := pl_enc i 5
@[simp] theorem md_enc (i : Itm) (m : Md) : md i.enc m = .fr := md_imm (imm_enc i)
@[simp] theorem imms_encs (L : List Itm) : D.imms (L.map Itm.enc) = true := by
  induction L with
  | nil => rfl
  | cons a r ih => rw [List.map_cons, imms_cons, imm_enc, ih]; rfl
@[simp] theorem pls_encs (L : List Itm) (k : Nat) : D.pls (k + 2) (L.map Itm.enc) = true := by
  induction L with
  | nil => simp
  | cons a r ih => simp [ih]
@[simp] theorem pls_encs8 (L : List Itm) : D.pls 8 (L.map Itm.enc) = true := pls_encs L 6
@[simp] theorem pls_encs9 (L : List Itm) : D.pls 9 (L.map Itm.enc) = true := pls_encs L 7
@[simp] theorem pls_encs7 (L : List Itm) : D.pls 7 (L.map Itm.enc) = true := pls_encs L 5
/-- back from data -/
def Itm.dcdW (w : List Nat) (tl : List D) : Option Itm := match tl with
  | [] => some .stop
  | [.str n] => if w = [108, 97, 98, 101, 108] then some (.label n.cps.toList) else some (.jump n.cps.toList)
  | [.str m, .str n] => some (.cond (w == [117, 110, 108, 101, 115, 115]) (if m.cps.toList = Mrk.w .carry then .carry else if m.cps.toList = Mrk.w .nought then .nought else .sign) n.cps.toList)
  | [.int d, .int n] => if w = [115, 101, 116] then some (.wide false d.toNat n.toNat) else if w = [104, 105, 103, 104] then some (.wide true d.toNat n.toNat)
    else if w = [108, 101, 102, 116] then some (.mv false d.toNat n.toNat) else if w = [114, 105, 103, 104, 116] then some (.mv true d.toNat n.toNat)
    else some (.two (if w = TwoW.w .copy then .copy else if w = TwoW.w .add then .add else if w = TwoW.w .addc then .addc else if w = TwoW.w .sub then .sub else if w = TwoW.w .subc then .subc else if w = TwoW.w .and then .and
      else if w = TwoW.w .or then .or else if w = TwoW.w .xor then .xor else .test) d.toNat n.toNat)
  | [.int d, .int s, .int n] => some (.held (if w = HeldW.w .load then .load else if w = HeldW.w .store then .store else if w = HeldW.w .loadw then .loadw else .storew) d.toNat s.toNat n.toNat)
  | _ => none
def Itm.dcd : D → Option Itm
  | .tup (.str w :: tl) => Itm.dcdW w.cps.toList tl
  | _ => none
theorem dec_enc (i : Itm) : Itm.dcd i.enc = some i := by
  rcases i with n | n | ⟨u, m, n⟩ | ⟨h, d, n⟩ | ⟨w, d, s⟩ | ⟨r, d, n⟩ | ⟨w, d, s, n⟩ | _
  · simp [Itm.enc, Itm.dcd, Itm.dcdW, Itm.word, Itm.tl]
  · simp [Itm.enc, Itm.dcd, Itm.dcdW, Itm.word, Itm.tl]
  · cases u <;> cases m <;> simp [Itm.enc, Itm.dcd, Itm.dcdW, Itm.word, Itm.tl, Mrk.w]
  · cases h <;> simp [Itm.enc, Itm.dcd, Itm.dcdW, Itm.word, Itm.tl]
  · cases w <;> simp [Itm.enc, Itm.dcd, Itm.dcdW, Itm.word, Itm.tl, TwoW.w]
  · cases r <;> simp [Itm.enc, Itm.dcd, Itm.dcdW, Itm.word, Itm.tl]
  · cases w <;> simp [Itm.enc, Itm.dcd, Itm.dcdW, Itm.word, Itm.tl, HeldW.w]
  · rfl
theorem enc_inj {i j : Itm} (h : i.enc = j.enc) : i = j := by
  have := congrArg Itm.dcd h
  rw [dec_enc, dec_enc] at this
  exact Option.some.inj this
theorem encs_inj : ∀ {x y : List Itm}, x.map Itm.enc = y.map Itm.enc → x = y
  | [], [], _ => rfl
  | [], _ :: _, h => by cases h
  | _ :: _, [], h => by cases h
  | a :: x, b :: y, h => by
    simp only [List.map_cons, List.cons.injEq] at h
    rw [enc_inj h.1, encs_inj h.2]
mutual
/-- numbers, texts, None, and lists and tuples of these: equal just where they are the same -/
def D.sim : D → Bool
  | .non => true
  | .int _ => true
  | .str _ => true
  | .tup ds => D.sims ds
  | .lst ds => D.sims ds
  | _ => false
def D.sims : List D → Bool
  | [] => true
  | d :: ds => d.sim && D.sims ds
end
mutual
theorem eqv_sim : ∀ a b : D, a.sim = true → b.sim = true → (a.eqv b = true ↔ a = b)
  | .non, b, _, hb => by cases b <;> first | (simp [D.eqv]; done) | cases hb
  | .int i, b, _, hb => by cases b <;> first | (simp [D.eqv]; done) | cases hb
  | .str i, b, _, hb => by cases b <;> first | (simp [D.eqv]; done) | cases hb
  | .tup xs, b, ha, hb => by
    cases b with
    | tup ys => rw [eqv_tup, eqvs_sim xs ys ha hb, D.tup.injEq]
    | _ => first | (simp [D.eqv]; done) | cases hb
  | .lst xs, b, ha, hb => by
    cases b with
    | lst ys => rw [eqv_lst, eqvs_sim xs ys ha hb, D.lst.injEq]
    | _ => first | (simp [D.eqv]; done) | cases hb
theorem eqvs_sim : ∀ a b : List D, D.sims a = true → D.sims b = true → (D.eqvs a b = true ↔ a = b)
  | [], [], _, _ => by simp
  | [], _ :: _, _, _ => by simp
  | _ :: _, [], _, _ => by simp
  | a :: x, b :: y, ha, hb => by
    have ha' : (a.sim && D.sims x) = true := ha
    have hb' : (b.sim && D.sims y) = true := hb
    rw [Bool.and_eq_true] at ha' hb'
    rw [eqvs_cons, Bool.and_eq_true, eqv_sim a b ha'.1 hb'.1, eqvs_sim x y ha'.2 hb'.2, List.cons.injEq]
end
@[simp] theorem sim_enc (i : Itm) : i.enc.sim = true := by cases i <;> rfl
@[simp] theorem sims_encs (L : List Itm) : D.sims (L.map Itm.enc) = true := by
  induction L with
  | nil => rfl
  | cons a r ih =>
    show (a.enc.sim && D.sims (r.map Itm.enc)) = true
    rw [sim_enc, ih]
    rfl
@[simp] theorem eqv_enc (i j : Itm) : i.enc.eqv j.enc = decide (i = j) := by
  rw [Bool.eq_iff_iff, eqv_sim _ _ (sim_enc i) (sim_enc j), decide_eq_true_eq]
  exact ⟨enc_inj, fun h => h ▸ rfl⟩
@[simp] theorem eqvs_encs (x y : List Itm) : D.eqvs (x.map Itm.enc) (y.map Itm.enc) = decide (x = y) := by
  rw [Bool.eq_iff_iff, eqvs_sim _ _ (sims_encs x) (sims_encs y), decide_eq_true_eq]
  exact ⟨encs_inj, fun h => h ▸ rfl⟩
end Dn
set_option Elab.async false
set_option linter.all false
set_option maxRecDepth 100000
set_option maxHeartbeats 2000000
/-! Dn38: numbers as texts; programs. -/
namespace Dn
open PySem L2
/-- a number's figures -/
def dec (n : Nat) : List Nat := (Nat.toDigits 10 n).map Char.toNat
theorem str_dec (n : Nat) : Str.ofString (toString (n : Int)) = tx (dec n) := by
  apply lit_of
  unfold dec
  congr 1
  show (toString (n : Int)).toList = _
  rw [show toString (n : Int) = n.repr from rfl, Nat.toList_repr]
theorem dec_len {n k : Nat} (h0 : 0 < k) (h : n < 10 ^ k) : (dec n).length ≤ k := by
  unfold dec
  rw [List.length_map]
  exact (Nat.length_toDigits_le_iff (by decide) h0).mpr h
theorem dec_pos (n : Nat) : 1 ≤ (dec n).length := by
  unfold dec
  rw [List.length_map]
  exact Nat.length_toDigits_pos
theorem oStr_nat {n : Nat} (h : n < 10000000) : oStr [.int (n : Int)] = some (.str (tx (dec n))) := by
  rw [oStr_int, if_pos, ← str_dec]
  have : (2 : Nat) ^ 1000 = 2 ^ 24 * 2 ^ 976 := by rw [← Nat.pow_add]
  have h2 := Nat.two_pow_pos 976
  rw [Int.natAbs_natCast, this]
  have : (2 : Nat) ^ 24 = 16777216 := by decide
  rw [this]
  generalize (2 : Nat) ^ 976 = z at h2
  have : 16777216 * 1 ≤ 16777216 * z := Nat.mul_le_mul_left _ h2
  omega
/-! ### programs -/
def labs (P : List Itm) : List (List Nat) := (P.filter Itm.isLab).map Itm.nm
structure Prog (P : List Itm) : Prop where
  ok : ∀ i ∈ P, i.ok
  nd : (labs P).Nodup
  jm : ∀ i ∈ P, i.isJmp = true → i.nm ∈ labs P
  len : P.length ≤ 400
theorem labs_app (P Q : List Itm) : labs (P ++ Q) = labs P ++ labs Q := by
  unfold labs
  rw [List.filter_append, List.map_append]
@[simp] theorem labs_nil : labs [] = [] := rfl
theorem labs_rows {P : List Itm} (h : ∀ i ∈ P, i.isLab = false) : labs P = [] := by
  unfold labs
  rw [List.filter_eq_nil_iff.mpr fun i hi => by rw [h i hi]; exact Bool.false_ne_true]
  rfl
/-- an item's row in a text -/
def Itm.pts : Itm → List (List Nat)
  | .label _ => []
  | .jump n => [n]
  | .cond _ m n => [m.w, n]
  | .wide _ d n => [114 :: dec d, dec n]
  | .two _ d s => [114 :: dec d, 114 :: dec s]
  | .mv _ d n => [114 :: dec d, dec n]
  | .held _ d s n => [114 :: dec d, 114 :: dec s, dec n]
  | .stop => []
def Itm.txt : Itm → List Nat
  | .label n => n ++ [58]
  | i => joinL [32] (i.word :: i.pts)
/-- all rows in order -/
def rows (P : List Itm) : List Itm := P.filter fun i => !i.isLab
/-- comprehensions over items -/
theorem lcL_items {st : Tg} {t : T} {f : E} {ρ : Rho} {p : Itm → Bool} {g : Itm → D} : ∀ {P : List Itm}, (∀ i ∈ P, ∃ ρ1, st i.enc ρ = some ρ1 ∧ t ρ1 = .ok (p i) ∧ (p i = true → ∃ m, f ρ1 = .ok (g i, m) ∧ md (g i) m = .fr)) → lcL st t f ρ (P.map Itm.enc) = .ok ((P.filter p).map g, .fr)
  | [], _ => rfl
  | i :: P, h => by
    obtain ⟨ρ1, h1, h2, h3⟩ := h i List.mem_cons_self
    rw [List.map_cons, lcL_cons, h1]
    simp only [nox_ok', R.bind_ok, h2]
    rw [lcL_items fun e he => h e (List.mem_cons_of_mem _ he), List.filter_cons]
    cases hp : p i with
    | false => rfl
    | true =>
      obtain ⟨m, h4, h5⟩ := h3 hp
      simp only [h4, nox_ok', R.bind_ok, h5, ntr, if_true]
      rfl
/-- .. over anything told by a function -/
theorem lcL_fun {α : Type} {e : α → D} {st : Tg} {t : T} {f : E} {ρ : Rho} {p : α → Bool} {g : α → D} : ∀ {P : List α}, (∀ i ∈ P, ∃ ρ1, st (e i) ρ = some ρ1 ∧ t ρ1 = .ok (p i) ∧ (p i = true → ∃ m, f ρ1 = .ok (g i, m) ∧ md (g i) m = .fr)) → lcL st t f ρ (P.map e) = .ok ((P.filter p).map g, .fr)
  | [], _ => rfl
  | i :: P, h => by
    obtain ⟨ρ1, h1, h2, h3⟩ := h i List.mem_cons_self
    rw [List.map_cons, lcL_cons, h1]
    simp only [nox_ok', R.bind_ok, h2]
    rw [lcL_fun fun e he => h e (List.mem_cons_of_mem _ he), List.filter_cons]
    cases hp : p i with
    | false => rfl
    | true =>
      obtain ⟨m, h4, h5⟩ := h3 hp
      simp only [h4, nox_ok', R.bind_ok, h5, ntr, if_true]
      rfl
theorem lcL_all {α : Type} {e : α → D} {st : Tg} {f : E} {ρ : Rho} {g : α → D} {P : List α} (h : ∀ i ∈ P, ∃ ρ1, st (e i) ρ = some ρ1 ∧ ∃ m, f ρ1 = .ok (g i, m) ∧ md (g i) m = .fr) : lcL st tYes' f ρ (P.map e) = .ok (P.map g, .fr) := by
  have := lcL_fun (e := e) (st := st) (t := tYes') (f := f) (ρ := ρ) (p := fun _ => true) (g := g) (P := P) fun i hi => by
    obtain ⟨ρ1, h1, m, h2, h3⟩ := h i hi
    exact ⟨ρ1, h1, rfl, fun _ => ⟨m, h2, h3⟩⟩
  rw [this, List.filter_eq_self.mpr fun _ _ => rfl]
theorem free_lt {ρ : Rho} {i : Nat} (h : free ρ[i]?) : i < ρ.length := by
  rcases q : ρ[i]? with _ | s
  · rw [q] at h
    exact h.elim
  · exact (List.getElem?_eq_some_iff.mp q).1
/-- a loop over anything told by a function: what it makes of a state -/
theorem forL_st {α σ : Type} {e : α → D} {st : Tg} {f : S} (mk : σ → Rho → Prop) (step : σ → α → σ) : ∀ {xs : List α} {s : σ} {ρ : Rho}, mk s ρ →
    (∀ s ρ x, x ∈ xs → mk s ρ → ∃ ρ1, st (e x) ρ = some ρ1 ∧ ∃ ρ2, (f ρ1 = .nx ρ2 ∨ f ρ1 = .ct ρ2) ∧ mk (step s x) ρ2) → ∃ ρ', forL st f (xs.map e) ρ = .nx ρ' ∧ mk (xs.foldl step s) ρ'
  | [], s, ρ, h, _ => ⟨ρ, rfl, h⟩
  | x :: xs, s, ρ, h, k => by
    obtain ⟨ρ1, h1, ρ2, h2, h3⟩ := k s ρ x List.mem_cons_self h
    obtain ⟨ρ', h4, h5⟩ := forL_st (xs := xs) mk step h3 fun s ρ y hy => k s ρ y (List.mem_cons_of_mem _ hy)
    refine ⟨ρ', ?_, h5⟩
    rw [List.map_cons]
    unfold forL
    rw [h1]
    rcases h2 with h2 | h2 <;> (simp only [h2]; exact h4)
end Dn
set_option Elab.async false
set_option linter.all false
set_option maxRecDepth 100000
set_option maxHeartbeats 3200000
/-! Dn39: sets of whole numbers and of texts, made of lists; sorted. -/
namespace DnS
open PySem PySem.Spec PyProof.Rows L2
/-- how many texts there are, each counted once -/
def cnt : List Str → Nat
  | [] => 0
  | x :: xs => if xs.contains x then cnt xs else cnt xs + 1
section
variable {P : Program} {w : World} {A : Around} {E : Value → Shared → Prop} {s : Shared}
/-- the loop over a list's texts: S has those of the turns done -/
theorem upd_strs {I : Addr} {fp wr : List Addr} {G : Array GenState → Array GenState → Prop} {n : Nat} {Pv : Nat → Value → Prop} {St : Nat → Shared → Prop} {R : Result → Shared → Prop}
    (W : WalksS P w A.in1 I fp wr G n Pv St) (S : Addr) (hSf : S ∉ fp) (xs : List Str) (hn : n = xs.length) (hb : xs.length + 1 < scanBound) (hval : ∀ i v, Pv i v → ∃ z t, xs[i]? = some z ∧ v = .str z t) :
    ∀ (k i : Nat) (s : Shared), n - i = k → i ≤ n → St i s → s.heap.SetOf (PySem.strKind P w) S (fun j => decide (j ∈ xs.take i)) (cnt (xs.take i).reverse) → cnt (xs.take i).reverse ≤ i →
      (∀ s', Moved (S :: wr) G s s' → s'.heap.SetOf (PySem.strKind P w) S (fun j => decide (j ∈ xs)) (cnt xs.reverse) → R (.ok (.ret .none)) s') →
      codeAny (model P w) A (.builtin "set.update.loop" ⟨[.ref S, .ref I], []⟩) R s := by
  have out : S ∉ wr := fun h => hSf (W.sub _ h)
  have more : ∀ b ∈ wr, b ∈ S :: wr := fun b hb => List.mem_cons_of_mem _ hb
  have keep : ∀ {h h' : Heap} {T : Str → Bool} {c : Nat}, h.SetOf (PySem.strKind P w) S T c → (∀ o, h.get? S = some o → h'.get? S = some o) → h'.SetOf (PySem.strKind P w) S T c := fun ⟨o, es, ep, tb, ho, rest⟩ k => ⟨o, es, ep, tb, k o ho, rest⟩
  intro k
  induction k with
  | zero =>
    intro i s hk hi hst hS _ hR
    obtain rfl : i = n := by omega
    refine codeAny_builtin F.entry_set_update_loop ?_
    rw [Around.under_plainId F.plain_set_update_loop _]
    show wpAny _ A.in1 (pyNext (.ref I) >>= _) _ _ s
    refine wpAny_bind (W.done s _ _ hst fun s' hm => ?_)
    show wpAny _ A.in1 (ret Value.none) _ _ s'
    rw [hn, List.take_length] at hS
    exact wpAny_pure (hR s' (hm.mono more) (keep hS fun o e => hm.heap S o out e))
  | succ k ih =>
    intro i s hk hi hst hS hc hR
    have lt : i < n := by omega
    refine codeAny_builtin F.entry_set_update_loop ?_
    rw [Around.under_plainId F.plain_set_update_loop _]
    show wpAny _ A.in1 (pyNext (.ref I) >>= _) _ _ s
    refine wpAny_bind (W.item i s _ _ lt hst fun v s' hP hst' hm => ?_)
    obtain ⟨z, t, hz, rfl⟩ := hval i v hP
    have hS' := keep hS fun o e => hm.heap S o out e
    show wpAny _ A.in1 (holding [Value.str z t] (setAdd S (.str z t)) >>= _) _ _ s'
    refine wpAny_bind (wpAny_holding ?_)
    unfold setAdd
    refine wpAny_holding ?_
    refine wpAny_bind ((PySem.strKind P w).pyHash (k := z) (strKind_is _ _ _ _) ?_)
    refine wpAny_setAddHashed_of (knd := PySem.strKind P w) (s := { s' with toks := s'.toks + 1 }) (strKind_is _ _ _ _) rfl hS' (by omega) fun h' same new => ?_
    have tk : xs.take (i + 1) = xs.take i ++ [z] := by rw [List.take_add_one, hz]; rfl
    have ct : cnt (xs.take (i + 1)).reverse = if decide (z ∈ xs.take i) = true then cnt (xs.take i).reverse else cnt (xs.take i).reverse + 1 := by
      rw [tk, List.reverse_append]
      show (if ((xs.take i).reverse).contains z then _ else _) = _
      have : ((xs.take i).reverse).contains z = decide (z ∈ xs.take i) := by
        rw [Bool.eq_iff_iff, List.contains_iff_mem, List.mem_reverse, decide_eq_true_eq]
      rw [this]
      rfl
    have new2 : h'.SetOf (PySem.strKind P w) S (fun j => decide (j ∈ xs.take (i + 1))) (cnt (xs.take (i + 1)).reverse) := by
      refine PyProof.Rows.SetOf_congr new (fun j => ?_) ct.symm
      rw [tk]
      simp only [List.mem_append, List.mem_cons, List.not_mem_nil, or_false, Bool.decide_or]
    have le2 : cnt (xs.take (i + 1)).reverse ≤ i + 1 := by
      rw [ct]
      split <;> omega
    refine wpAny_pure ⟨plainId_quiet F.plain_set_update_loop _, ih (i + 1) _ (by omega) lt (W.frame _ s' _ _ hst' (Nat.le_succ _) fun b hb o e => ?_) new2 le2 fun s'' hm2 hS2 => ?_⟩
    · rw [same.2 b (fun h : b = S => hSf (by rw [← h]; exact hb))]
      exact e
    · refine hR s'' (Moved.trans W.gtrans ((hm.mono more).then_heap (Nat.le_succ _) fun b o hb e => ?_) hm2) hS2
      rw [same.2 b (fun h : b = S => hb (by rw [h]; exact List.mem_cons_self))]
      exact e
/-- the new, empty set -/
abbrev seed (w : World) : Obj := { cls := .type "set", dict := none, data := .set #[] 0 (.fresh 0 0 (!w.params.followText "set-order")) }
/-- set(l), l a list: what the loop over it leaves -/
theorem set_of_list {l : Addr} {items : Array Value} {Pm : Heap → Prop} {Q : Value → Shared → Prop} (hh : A.handled = none) (hl : s.heap.IsList l items)
    (loop : ∀ {A' : Around} {I : Addr} {fp wr : List Addr} {G : Array GenState → Array GenState → Prop} {St : Nat → Shared → Prop} {R : Result → Shared → Prop} (_ : WalksS P w A'.in1 I fp wr G items.size (fun i v => items[i]? = some v) St) (s1 : Shared),
      s.heap.objs.size ∉ fp → St 0 s1 → s1.heap.get? s.heap.objs.size = some (seed w) → (∀ s', Moved (s.heap.objs.size :: wr) G s1 s' → Pm s'.heap → R (.ok (.ret .none)) s') → codeAny (model P w) A' (.builtin "set.update.loop" ⟨[.ref s.heap.objs.size, .ref I], []⟩) R s1)
    (h : ∀ (h' : Heap) (tk : Nat), Pm h' → (∀ b o, s.heap.get? b = some o → h'.get? b = some o) → Q (.ref s.heap.objs.size) { s with heap := h', toks := tk }) :
    wpAny (model P w) A (call (.type "set") [.ref l]) Q E s := by
  obtain ⟨c, tl, hmro⟩ := F.called_set.mro
  have hmade := F.called_set.made
  have hsub := F.called_set.sub
  refine wpAny_call (codeAny_of_tree ?_)
  show wpAny _ _ (callAny (.type "set") _) _ _ _
  refine wpAny_pure ⟨Code.quiet_builtin _ (by decide +kernel), codeAny_builtin F.entry_type_call ?_⟩
  rw [Around.under_plain (weight_type_call_type "set" [.ref l] []) rfl]
  have h1 := F.called_set.notType
  have h2 := F.called_set.canCreate
  have hct := F.typeCall_set_1 (.ref l)
  repeat (any_goals (first | assumption | wp_step))
  refine codeAny_mono (code_set_led1 (.ref l) (E := E) (Q₁ := fun obj s₁ => obj = .ref s.heap.objs.size ∧ s₁ = { s with heap := s.heap.push (seed w) }) ⟨rfl, rfl⟩) fun r s₁ hr => ?_
  cases r with
  | error e => exact hr
  | ok fl =>
    cases fl with
    | ret obj =>
      obtain ⟨rfl, rfl⟩ := hr
      have hS : (s.heap.push (seed w)).get? s.heap.objs.size = some (seed w) := Heap.get?_push_size _ rfl
      have hT : Shared.TypeIs { s with heap := s.heap.push (seed w) } (.ref s.heap.objs.size) "set" := ⟨_, hS, rfl⟩
      have hli := F.called_set.init.lookup
      have hbi := F.called_set.init.bind (.ref s.heap.objs.size)
      repeat (any_goals (first | assumption | wp_step))
      refine codeAny_mono (codeAny_call_builtin (R := wants (fun r s₂ => r = .none ∧ ∃ h' tk, s₂ = { s with heap := h', toks := tk } ∧ Pm h' ∧ (∀ b o, s.heap.get? b = some o → h'.get? b = some o)) E) F.called_set.init.plain F.entry_set_init (check_set_init_1 hT ?_)) fun r₂ s₂ hr₂ => ?_
      · obtain ⟨ol, hol, hcl, nl, hdl⟩ := hl
        obtain ⟨ocls, odict, odata, oslots⟩ := ol
        simp only at hcl hdl
        subst hcl
        subst hdl
        have hol' : (s.heap.push (seed w)).get? l = some { cls := .type "list", dict := odict, data := .seq items nl, slots := oslots } := Heap.get?_push_of_some _ hol
        have f1 := F.sub_list_set
        have f2 := F.sub_list_frozenset
        have f3 : (Value.type "list" == Value.type "dict") = false := by decide
        have isl : (s.heap.push (seed w)).IsList l items := ⟨_, hol', rfl, nl, rfl⟩
        unfold Builtin.«set.__init__» noKeywords Builtin.Frozenset.updateFrom
        generalize hPI : pyIter = PI
        wp_walk
        subst hPI
        refine wpAny_pyIter_list isl ?_
        refine wpAny_bind (wpAny_runValue ?_)
        have lS : l < s.heap.objs.size := Heap.lt_size hol
        have h3 : A.in1.in1.in1.handled = none := by simp [hh]
        have z1 : (s.heap.push (seed w)).objs.size = s.heap.objs.size + 1 := Heap.size_push ..
        have ne1 : l ≠ (s.heap.push (seed w)).objs.size := by rw [z1]; exact Nat.ne_of_lt (Nat.lt_succ_of_lt lS)
        have nm : s.heap.objs.size ∉ [(s.heap.push (seed w)).objs.size, l] := by
          rw [z1]
          simp only [List.mem_cons, List.not_mem_nil, or_false, not_or]
          exact ⟨Nat.ne_of_lt (Nat.lt_succ_self _), Nat.ne_of_gt lS⟩
        refine loop ((Walks.list h3 _ l ne1 items).toS) _ nm ⟨⟨_, Heap.get?_push_size _ rfl, rfl, rfl⟩, (isl.push _)⟩ (Heap.get?_push_of_some _ hS) ?hR
        case hR =>
          intro s' hm hP
          obtain ⟨h', g2, d', tk', os'⟩ := s'
          have eg : g2 = s.gens := hm.gens
          have ed : d' = s.drawn := hm.drawn
          have eo : os' = s.os := hm.os
          subst eg
          subst ed
          subst eo
          show wpAny _ _ _ _ _ _
          refine wpAny_pure ?_
          show wpAny _ _ (ret Value.none) _ _ _
          refine wpAny_pure ⟨rfl, h', tk', rfl, hP, fun b o e => ?_⟩
          have b0 : b < s.heap.objs.size := Heap.lt_size e
          refine hm.heap b o ?_ (Heap.get?_push_of_some _ (Heap.get?_push_of_some _ e))
          rw [z1]
          simp only [List.mem_cons, List.not_mem_nil, or_false, not_or]
          exact ⟨Nat.ne_of_lt b0, Nat.ne_of_lt (Nat.lt_succ_of_lt b0)⟩
      · cases r₂ with
        | error e => exact hr₂
        | ok fl₂ =>
          cases fl₂ with
          | ret r =>
            obtain ⟨rfl, h', tk, rfl, hP, hk⟩ := hr₂
            repeat (any_goals (first | assumption | wp_step))
            exact h _ _ hP hk
          | _ => exact hr₂.elim
    | _ => exact hr.elim
theorem ints_get : ∀ {us : List Value} {ns : List Int}, IntsAre us ns → ∀ (i : Nat) (v : Value), us[i]? = some v → ∃ z t, ns[i]? = some z ∧ v = .int z t
  | _, _, .nil, i, v, h => by simp at h
  | _, _, .cons n t hr, 0, v, h => by
    simp at h
    exact ⟨n, t, rfl, h.symm⟩
  | _, _, .cons n t hr, i + 1, v, h => by
    simp only [List.getElem?_cons_succ] at h
    exact ints_get hr i v h
theorem strs_get : ∀ {us : List Value} {ns : List Str}, StrsAre us ns → ∀ (i : Nat) (v : Value), us[i]? = some v → ∃ z t, ns[i]? = some z ∧ v = .str z t
  | _, _, .nil, i, v, h => by simp at h
  | _, _, .cons n t hr, 0, v, h => by
    simp at h
    exact ⟨n, t, rfl, h.symm⟩
  | _, _, .cons n t hr, i + 1, v, h => by
    simp only [List.getElem?_cons_succ] at h
    exact strs_get hr i v h
theorem set_ints {l : Addr} {items : Array Value} (ns : List Int) {Q : Value → Shared → Prop} (hh : A.handled = none) (hl : s.heap.IsList l items) (hit : IntsAre items.toList ns) (hb : ns.length + 1 < scanBound)
    (h : ∀ (h' : Heap) (tk c : Nat), SetR w h' s.heap.objs.size (fun j => decide (j ∈ ns)) c → (∀ b o, s.heap.get? b = some o → h'.get? b = some o) → Q (.ref s.heap.objs.size) { s with heap := h', toks := tk }) :
    wpAny (model P w) A (call (.type "set") [.ref l]) Q E s := by
  have hz : items.size = ns.length := by
    have q := IntsAre.length hit
    rw [Array.length_toList] at q
    exact q
  refine set_of_list (Pm := fun h' => ∃ c, SetR w h' s.heap.objs.size (fun j => decide (j ∈ ns)) c) hh hl (fun {A' I fp wr G St R} W s1 nm st0 e0 k => ?_) fun h' tk ⟨c, R⟩ kp => h h' tk c R kp
  exact set_update_ints W _ nm ns hz hb (fun i v hv => ints_get hit i v (by rw [Array.getElem?_toList]; exact hv)) (items.size - 0) 0 s1 rfl (Nat.zero_le _) st0 ⟨0, Nat.le_refl 0, setR_new_at e0⟩ fun s' c hm _ R => k s' hm ⟨c, R⟩
theorem set_strs {l : Addr} {items : Array Value} (ns : List Str) {Q : Value → Shared → Prop} (hh : A.handled = none) (hl : s.heap.IsList l items) (hit : StrsAre items.toList ns) (hb : ns.length + 1 < scanBound)
    (h : ∀ (h' : Heap) (tk : Nat), h'.SetOf (PySem.strKind P w) s.heap.objs.size (fun j => decide (j ∈ ns)) (cnt ns.reverse) → (∀ b o, s.heap.get? b = some o → h'.get? b = some o) → Q (.ref s.heap.objs.size) { s with heap := h', toks := tk }) :
    wpAny (model P w) A (call (.type "set") [.ref l]) Q E s := by
  have hz : items.size = ns.length := by rw [← StrsAre.len_eq hit, Array.length_toList]
  refine set_of_list (Pm := fun h' => h'.SetOf (PySem.strKind P w) s.heap.objs.size (fun j => decide (j ∈ ns)) (cnt ns.reverse)) hh hl (fun {A' I fp wr G St R} W s1 nm st0 e0 k => ?_) fun h' tk R kp => h h' tk R kp
  refine upd_strs W _ nm ns hz hb (fun i v hv => strs_get hit i v (by rw [Array.getElem?_toList]; exact hv)) (items.size - 0) 0 s1 rfl (Nat.zero_le _) st0 ?_ (Nat.le_refl 0) fun s' hm R => k s' hm R
  exact PyProof.Rows.SetOf_congr ((PyProof.Rows.setObjOf_fresh (knd := PySem.strKind P w) _).setOf e0 (by unfold scanBound; omega)) (fun _ => rfl) rfl
end
end DnS
set_option Elab.async false
set_option linter.all false
set_option maxRecDepth 100000
set_option maxHeartbeats 2000000
/-! Dn40: sorted(xs), sorted(d), sorted(set(xs)), len(set(xs)) by denotations. -/
namespace Dn
open PySem L2
def srt (ns : List Int) : List Int := ns.mergeSort fun a b => decide (a ≤ b)
theorem srt_perm (ns : List Int) : (srt ns).Perm ns := List.mergeSort_perm ns _
theorem srt_sorted (ns : List Int) : (srt ns).Pairwise (· ≤ ·) := by
  have := List.pairwise_mergeSort (le := fun a b : Int => decide (a ≤ b)) (fun a b c h1 h2 => by simp at *; omega) (fun a b => by simp; omega) ns
  exact this.imp fun h => by simpa using h
theorem srt_eq {ns ns' : List Int} (p : ns'.Perm ns) (h : ns'.Pairwise (· ≤ ·)) : ns' = srt ns :=
  List.Perm.eq_of_pairwise (le := (· ≤ ·)) (fun a b _ _ h1 h2 => by omega) h (srt_sorted ns) (p.trans (srt_perm ns).symm)
/-- each once -/
def ded : List Int → List Int
  | [] => []
  | x :: xs => if x ∈ ded xs then ded xs else x :: ded xs
theorem mem_ded {k : Int} : ∀ {ns : List Int}, k ∈ ded ns ↔ k ∈ ns
  | [] => Iff.rfl
  | x :: xs => by
    unfold ded
    split
    · rename_i h
      rw [mem_ded (ns := xs), List.mem_cons]
      constructor
      · exact .inr
      · rintro (z | z)
        · rw [z]
          exact mem_ded.mp h
        · exact z
    · rw [List.mem_cons, List.mem_cons, mem_ded (ns := xs)]
theorem nodup_ded : ∀ ns : List Int, (ded ns).Nodup
  | [] => List.nodup_nil
  | x :: xs => by
    unfold ded
    split
    · exact nodup_ded xs
    · rename_i h
      exact List.nodup_cons.mpr ⟨h, nodup_ded xs⟩
/-- rising, each once -/
theorem srt_ded {ns ns' : List Int} (h : ns'.Pairwise (· < ·)) (m : ∀ k, k ∈ ns' ↔ k ∈ ns) : ns' = srt (ded ns) := by
  refine srt_eq ?_ (h.imp fun h => by omega)
  refine (List.perm_ext_iff_of_nodup (h.imp fun h => by omega) (nodup_ded ns)).mpr fun k => ?_
  rw [m, mem_ded]
theorem srt_ded_lt (ns : List Int) : (srt (ded ns)).Pairwise (· < ·) := by
  have h1 := srt_sorted (ded ns)
  have h2 : (srt (ded ns)).Nodup := (srt_perm (ded ns)).nodup_iff.mpr (nodup_ded ns)
  exact (h1.and h2).imp fun ⟨a, b⟩ => by omega
theorem mem_srt {k : Int} {ns : List Int} : k ∈ srt ns ↔ k ∈ ns := (srt_perm ns).mem_iff
section
variable {X : Cx} {G : Cts} {W : WX}
def keyInts : List Key → Option (List Int)
  | [] => some []
  | .inl i :: ks => (keyInts ks).map (i :: ·)
  | .inr _ :: _ => none
theorem keyInts_some : ∀ {ks : List Key} {ns : List Int}, keyInts ks = some ns → ks = ns.map Sum.inl
  | [], ns, h => by
    cases h
    rfl
  | .inl i :: ks, ns, h => by
    unfold keyInts at h
    cases e : keyInts ks with
    | none =>
      rw [e] at h
      cases h
    | some ms =>
      rw [e] at h
      cases h
      rw [keyInts_some e]
      rfl
  | .inr _ :: _, _, h => by cases h
def oSrt : List D → Option D := fun ds => match ds with
  | [.lst xs] => (intsOf xs).map fun ns => .lst ((srt ns).map .int)
  | [.dct ks _] => (keyInts ks).bind fun ns => if ns.length < 64 then some (.lst ((srt ns).map .int)) else none
  | _ => none
def rSrtA (K : PySem.W.Frag) : List V → Hp → VK → Prop := fun vs H Q => rSortedI K vs H Q ∨ (fun xs H Q => ∃ (a : Addr) (kvs : List (Key × V)) (ks : List Int), xs = [.ref a] ∧ Rd H a (.dK kvs) ∧ kvs.map (·.1) = ks.map Sum.inl ∧ ks.length < 64 ∧ ∀ (ys : List Int) (p : Addr), ys.Perm ks → ys.Pairwise (· ≤ ·) → H p = none → Q (.ref p) (upd H p (.lst (ys.map V.int)))) vs H Q
theorem cr_srtA (hc : X.calm = true) : CallR X (.builtin "sorted") (rSrtA X.K) := CallR.or cr_sortedI (call_sortedDI hc)
theorem Fresh.ints {H : Hp} {ns : List Int} {p : Addr} (hp : H p = none) : Fresh G H (upd H p (.lst (ns.map V.int))) (.lst (ns.map .int)) (.ref p) :=
  Fresh.lst (imms_ints ns) (reps_ints ns) hp
theorem opn_srt : OpN G (rSrtA G.K) oSrt := by
  intro vs ds H hr c hc Q k
  unfold oSrt at hc
  split at hc
  · rename_i xs
    cases z : intsOf xs with
    | none =>
      rw [z] at hc
      cases hc
    | some ns =>
      rw [z] at hc
      cases hc
      have e1 := intsOf_some z
      subst e1
      obtain ⟨v, rfl, a, ws, rfl, _, s, r⟩ := one_of hr
      have := reps_ints_of r
      subst this
      refine .inl ⟨a, ns, rfl, SqL.of s, fun ns' p pm so hp => ?_⟩
      rw [srt_eq pm so]
      exact k _ _ (same_new hp) (Fresh.ints hp)
  · rename_i ks es
    cases z : keyInts ks with
    | none =>
      rw [z] at hc
      cases hc
    | some ns =>
      rw [z] at hc
      have hc : (if ns.length < 64 then some (D.lst ((srt ns).map .int)) else none) = some c := hc
      by_cases hl : ns.length < 64
      · rw [if_pos hl] at hc
        cases hc
        obtain ⟨v, rfl, a, kvs, rfl, _, s, hk, r⟩ := one_of hr
        refine .inr ⟨a, kvs, ns, rfl, s, hk.trans (keyInts_some z), hl, fun ys p pm so hp => ?_⟩
        rw [srt_eq pm so]
        exact k _ _ (same_new hp) (Fresh.ints hp)
      · rw [if_neg hl] at hc
        cases hc
  · cases hc
/-- set(xs), xs a list of whole numbers -/
def rSetI (K : PySem.W.Frag) (w : World) : List V → Hp → VK → Prop := fun vs H Q => ∃ (l : Addr) (ns : List Int), vs = [.ref l] ∧ SqL K H l (ns.map V.int) ∧ ns.length ≤ 4000 ∧
  ∀ (p : Addr) (c : Nat), H p = none → c = (ded ns).length → Q (.ref p) (upd H p (SetO w p (fun j => decide (j ∈ ns)) c))
theorem setR_card {w : World} {h : Heap} {a : Addr} {ns : List Int} {c : Nat} (R : SetR w h a (fun j => decide (j ∈ ns)) c) : c = (ded ns).length := by
  obtain ⟨o, es, ep, t, _, _, _, _, nd, mem, _, _, hn, _, _⟩ := R
  have hl : (es.toList.map keyOf).length = c := by rw [List.length_map, Array.length_toList, hn]
  have : (es.toList.map keyOf).Perm (ded ns) := (List.perm_ext_iff_of_nodup nd (nodup_ded ns)).mpr fun k => by
    rw [← mem k, mem_ded]
    simp
  rw [← hl, this.length_eq]
theorem cr_setI (hc : X.calm = true) : CallR X (.type "set") (rSetI X.K X.w) := by
  intro pins s σ H vs us Q I r h
  obtain ⟨l, ns, rfl, hq, hl, q⟩ := h
  rw [Vals.ref1 r]
  obtain ⟨its, rv, pl, hz⟩ := I.list hq
  have hlen : its.length = ns.length := by rw [← rv.length, List.length_map]
  refine DnS.set_ints ns (I.ok.hd hc) pl.isList (by simpa using RZ.intsAre_vals rv) (by unfold scanBound; omega) fun h' tk c R kp => ?_
  exact ⟨.ref _, upd H s.heap.objs.size (SetO X.w s.heap.objs.size (fun j => decide (j ∈ ns)) c), I.laid (t' := tk) kp (Nat.le_refl _) (setO_new R), rfl, q _ c (I.hok.fresh (Nat.le_refl _)) (setR_card R)⟩
def oSrtSet : D → Option D := fun d => match d with
  | .lst xs => (intsOf xs).bind fun ns => if ns.length ≤ 4000 ∧ (ded ns).length < 64 then some (.lst ((srt (ded ns)).map .int)) else none
  | _ => none
def eSrtSet (f : E) : E := fun ρ => (f ρ).bind fun a => (R.opt (oSrtSet a.1)).bind fun c => .ok (c, .fr)
theorem px_srtSet {e : Expr} {f : E} (h : PE X e (tCB (rSortedSet X.w) (tCons (tCB (rSetI X.K X.w) (tCons (tE G W f) tNil)) tNil))) (hK : X.K = G.K := by rfl) : PE X e (tE G W (eSrtSet f)) := by
  refine PE.of h fun σ H Q ⟨fp, fv, ρ, I, q⟩ => ?_
  unfold eSrtSet at q
  refine tE.of_bind (y := yE G W fp σ H Q) I q (fun e h => h) (fun h => h) fun d m q v H1 e1 v1 => ?_
  replace q : yE G W fp σ H Q ((R.opt (oSrtSet d)).bind fun c => .ok (c, .fr)) := q
  unfold oSrtSet at q
  cases d with
  | lst xs =>
    replace q : yE G W fp σ H Q ((R.opt ((intsOf xs).bind fun ns => if ns.length ≤ 4000 ∧ (ded ns).length < 64 then some (D.lst ((srt (ded ns)).map .int)) else none)).bind fun c => .ok (c, .fr)) := q
    cases z : intsOf xs with
    | none =>
      rw [z] at q
      exact q.elim
    | some ns =>
      rw [z] at q
      replace q : yE G W fp σ H Q ((R.opt (if ns.length ≤ 4000 ∧ (ded ns).length < 64 then some (.lst ((srt (ded ns)).map .int)) else none)).bind fun c => .ok (c, .fr)) := q
      by_cases hl : ns.length ≤ 4000 ∧ (ded ns).length < 64
      · rw [if_pos hl] at q
        have e1' := intsOf_some z
        subst e1'
        obtain ⟨l, ws, rfl, _, s, r⟩ := v1.tr
        have := reps_ints_of r
        subst this
        refine ⟨l, ns, rfl, by rw [hK]; exact SqL.of s, hl.1, fun p c hp ec => ?_⟩
        subst ec
        refine ⟨p, _, _, rfl, upd_same, hl.2, fun ns' p' so mm _ hp' => ?_⟩
        rw [srt_ded (ns := ns) so (fun k => by rw [mm k, decide_eq_true_eq])]
        have e2 : Same H1 (upd H1 p (SetO X.w p (fun j => decide (j ∈ ns)) (ded ns).length)) := same_new hp
        exact q _ _ ((e1.trans e2).trans (same_new hp')) ((Fresh.ints hp').back (e1.trans e2))
      · rw [if_neg hl] at q
        exact q.elim
  | _ => exact q.elim
/-- len(set(xs)), xs a list of texts -/
def oLenSet : D → Option D := fun d => match d with
  | .lst xs => (strsOf xs).bind fun ss => if ss.length ≤ 4000 then some (.int (DnS.cnt ss.reverse : Nat)) else none
  | _ => none
def eLenSet (f : E) : E := fun ρ => (f ρ).bind fun a => (R.opt (oLenSet a.1)).bind fun c => .ok (c, .fr)
def tLenSetT (K : PySem.W.Frag) (ta : TE) : TE := fun σ H Q => ta σ H fun x H1 => ∃ (l : Addr) (ns : List Str), x = .ref l ∧ SqL K H1 l (ns.map V.str) ∧ ns.length ≤ 4000 ∧ Q (.int (DnS.cnt ns.reverse : Nat)) H1
theorem cnt_le : ∀ xs : List Str, DnS.cnt xs ≤ xs.length
  | [] => Nat.le_refl 0
  | x :: xs => by
    unfold DnS.cnt
    have := cnt_le xs
    split <;> (rw [List.length_cons]; omega)
theorem pe_lenSetT {a : Expr} {ta : TE} {p p2 q pos : Pos} (hg : Gl X "len") (hm : X.mg "len" = none) (hg2 : Gl X "set") (hm2 : X.mg "set" = none) (ha : PE X a ta) (hc : X.calm = true := by rfl)
    (na : starEach [a] X.env = (false, eval a X.env) :: starEach [] X.env := by rfl) : PE X (.Call (.Name "len" p) [.Call (.Name "set" p2) [a] [] q] [] pos) (tLenSetT X.K ta) := by
  refine ⟨fun pins s σ H Q I h => ?_⟩
  refine PyProof.Rows.Call_ (ld_blt I hg hm boot_len ?_)
  refine PyProof.Rows.callWith_builtin1 (PyProof.Rows.args_cons ?_ rfl) rfl rfl
  refine PyProof.Rows.Call_ (ld_blt (u := .type "set") I hg2 hm2 (by decide +kernel) ?_)
  refine PyProof.Rows.callWith_type1 (PyProof.Rows.args_cons (thn (ha.run pins s σ H _ I h) fun v s1 ⟨x, H1, I1, r1, q1⟩ => PyProof.Rows.args_nil ?_) na) na rfl
  obtain ⟨l, ns, rfl, hq, hl, q1⟩ := q1
  cases r1
  obtain ⟨its, r, pl, hz⟩ := I1.list hq
  have hlen : its.length = ns.length := by rw [← r.length, List.length_map]
  have hcl := cnt_le ns.reverse
  rw [List.length_reverse] at hcl
  refine DnS.set_strs ns (I1.ok.hd hc) pl.isList (by simpa using strsAre_of r) (by unfold scanBound; omega) fun h' tk hS hk => ?_
  refine PyProof.Rows.args_nil ?_
  obtain ⟨o, es, ep, t, ho, hex, hd, _, _, _, hf, hn⟩ := hS
  have I2 : Inv X pins σ H1 { s1 with heap := h', toks := tk } := I1.kept fun b o e => hk b o e
  exact PySem.call_len_set ho hex hd hf (by rw [hn] <;> omega) ⟨.int (DnS.cnt ns.reverse : Nat), H1, I2.tok _, ⟨_, by rw [hn]⟩, q1⟩
theorem px_lenSet {a : Expr} {p p2 q pos : Pos} {f : E} (hg : Gl X "len") (hm : X.mg "len" = none) (hg2 : Gl X "set") (hm2 : X.mg "set" = none) (ha : PE X a (tE G W f)) (hc : X.calm = true := by rfl) (hK : X.K = G.K := by rfl)
    (na : starEach [a] X.env = (false, eval a X.env) :: starEach [] X.env := by rfl) : PE X (.Call (.Name "len" p) [.Call (.Name "set" p2) [a] [] q] [] pos) (tE G W (eLenSet f)) := by
  refine PE.of (pe_lenSetT hg hm hg2 hm2 ha hc na) fun σ H Q ⟨fp, fv, ρ, I, q⟩ => ?_
  unfold eLenSet at q
  refine tE.of_bind (y := yE G W fp σ H Q) I q (fun e h => h) (fun h => h) fun d m q v H1 e1 v1 => ?_
  replace q : yE G W fp σ H Q ((R.opt (oLenSet d)).bind fun c => .ok (c, .fr)) := q
  unfold oLenSet at q
  cases d with
  | lst xs =>
    replace q : yE G W fp σ H Q ((R.opt ((strsOf xs).bind fun ss => if ss.length ≤ 4000 then some (D.int (DnS.cnt ss.reverse : Nat)) else none)).bind fun c => .ok (c, .fr)) := q
    cases z : strsOf xs with
    | none =>
      rw [z] at q
      exact q.elim
    | some ss =>
      rw [z] at q
      replace q : yE G W fp σ H Q ((R.opt (if ss.length ≤ 4000 then some (.int (DnS.cnt ss.reverse : Nat)) else none)).bind fun c => .ok (c, .fr)) := q
      by_cases hl : ss.length ≤ 4000
      · rw [if_pos hl] at q
        have e1' := strsOf_some z
        subst e1'
        obtain ⟨l, ws, rfl, _, s, r⟩ := v1.tr
        have := reps_strs_of r
        subst this
        refine ⟨l, ss, rfl, by rw [hK]; exact SqL.of s, hl, ?_⟩
        exact q _ _ e1 Fresh.int
      · rw [if_neg hl] at q
        exact q.elim
  | _ => exact q.elim
end
@[simp] theorem eSrtSet_eq (f : E) (ρ : Rho) : eSrtSet f ρ = (f ρ).bind fun a => (R.opt (oSrtSet a.1)).bind fun c => .ok (c, .fr) := rfl
@[simp] theorem eLenSet_eq (f : E) (ρ : Rho) : eLenSet f ρ = (f ρ).bind fun a => (R.opt (oLenSet a.1)).bind fun c => .ok (c, .fr) := rfl
theorem oSrt_ints (ns : List Int) : oSrt [.lst (ns.map .int)] = some (.lst ((srt ns).map .int)) := by
  unfold oSrt
  simp only [intsOf_map, Option.map_some]
theorem keyInts_map : ∀ ns : List Int, keyInts (ns.map Sum.inl) = some ns
  | [] => rfl
  | n :: ns => by
    show (keyInts (ns.map Sum.inl)).map (n :: ·) = _
    rw [keyInts_map ns]
    rfl
theorem oSrt_dct (ns : List Int) (ds : List D) (h : ns.length < 64) : oSrt [.dct (ns.map Sum.inl) ds] = some (.lst ((srt ns).map .int)) := by
  unfold oSrt
  simp only [keyInts_map, Option.bind_some]
  rw [if_pos h]
theorem oSrtSet_ints (ns : List Int) (h : ns.length ≤ 4000) (h2 : (ded ns).length < 64) : oSrtSet (.lst (ns.map .int)) = some (.lst ((srt (ded ns)).map .int)) := by
  unfold oSrtSet
  simp only [intsOf_map, Option.bind_some]
  rw [if_pos ⟨h, h2⟩]
theorem ded_len : ∀ ns : List Int, (ded ns).length ≤ ns.length
  | [] => Nat.le_refl 0
  | x :: xs => by
    unfold ded
    have := ded_len xs
    split <;> simp only [List.length_cons] <;> omega
end Dn
set_option Elab.async false
set_option linter.all false
set_option maxRecDepth 100000
set_option maxHeartbeats 2000000
/-! Dn41: enumerate, d.items(): of a new dict, of a slot's own one (which is read only from then on). -/
namespace Dn
open PySem L2
section
variable {X : Cx} {G : Cts} {W : WX}
/-- what is new is locked for good -/
theorem pe_frz {e : Expr} {t : TE} (h : PE X e t) : PE X e (fun σ H Q => t σ H fun v H1 => ∃ d u, H1 d = some u ∧ Mut (some u) ∧ ∀ od, Q v (upd H1 d (.frz od u))) := by
  refine ⟨fun pins s σ H Q I hw => ?_⟩
  refine thn (h.run pins s σ H _ I hw) fun v s1 ⟨x, H1, I1, r, d, u, hd, mu, q⟩ => ?_
  obtain ⟨od, I2⟩ := I1.lock hd mu
  exact ⟨x, _, I2, r, q od⟩
theorem ps_frz {st : Stmt} {t : TS} (h : PS X st t) : PS X st (fun D σ H => ∃ d u, H d = some u ∧ Mut (some u) ∧ ∀ od, t D σ (upd H d (.frz od u))) := by
  refine ⟨fun pins s σ H D I hw => ?_⟩
  obtain ⟨d, u, hd, mu, q⟩ := hw
  obtain ⟨od, I2⟩ := I.lock hd mu
  exact h.run pins s σ _ D I2 (q od)
/-! ### enumerate -/
def enumD (xs : List D) : List D := List.zipWith pairD ((List.range xs.length).map fun (i : Nat) => D.int i) xs
def enumR (m : Md) (ds : List D) : R (List D) := match ds with
  | [.lst xs] => (match m with
    | .tr => .bad
    | _ => .ok (enumD xs))
  | _ => .bad
def itEnum (g : EA) : EI := fun ρ => (g ρ).bind fun a => enumR a.2 a.1
theorem enumD_at {xs : List D} {i : Nat} {d : D} (h : (enumD xs)[i]? = some d) : ∃ x, xs[i]? = some x ∧ d = pairD (.int i) x := by
  obtain ⟨a, x, h1, h2, e⟩ := zipW_at h
  rw [List.getElem?_map] at h1
  cases q : (List.range xs.length)[i]? with
  | none =>
    rw [q] at h1
    cases h1
  | some j =>
    rw [q] at h1
    have hi : i < (List.range xs.length).length := (List.getElem?_eq_some_iff.mp q).1
    rw [List.getElem?_eq_getElem hi, List.getElem_range] at q
    cases q
    cases h1
    exact ⟨x, h2, e⟩
theorem enumD_len (xs : List D) : (enumD xs).length = xs.length := by
  unfold enumD
  rw [List.length_zipWith, List.length_map, List.length_range, Nat.min_self]
theorem wk_enum {a : Addr} {vs : List V} {av : Addr → Prop} {H1 : Hp} {xs : List D} (s : ∀ H, Av av H1 H → Tk G H1 H → SqL G.K H a vs) (r : Reps G av H1 xs vs) : Wk G av (Ite G.K a) H1 (enumD xs) := by
  intro H k t i
  have sh := s H k t
  refine ⟨fun d hd => ?_, fun hl => ?_⟩
  · obtain ⟨x, hx, rfl⟩ := enumD_at hd
    obtain ⟨v, hv, rv⟩ := r.get hx
    refine ⟨⟨vs, v, sh, hv⟩, fun z H' yy => ?_⟩
    obtain ⟨T, v', rfl, hT, rfl, q⟩ := yy
    have q1 := q vs sh
    rw [hv] at q1
    cases q1
    have sm := same_new (o := .tup [.int (i : Nat), v]) hT
    exact ⟨sm, fun av' k' => ⟨T, _, rfl, SqT.of upd_same, _, [v], rfl, rfl, v, [], rfl, (Rep.wk k t k' rv).same sm, rfl⟩⟩
  · rw [enumD_len] at hl
    exact ⟨vs, sh, by rw [← r.length, hl]; exact Nat.le_refl _⟩
theorem pi_ofEnum {e : Expr} {g : EA} {p pos tpos : Pos} {elts : List Expr} {kk : Nat} (hg : Gl X "enumerate") (hm : X.mg "enumerate" = none) (ha : PA X [e] (tA G W g)) (hK : X.K = G.K := by rfl) (hs : starEach [e] X.env = [(false, eval e X.env)] := by rfl) :
    PI X (.Tuple elts kk tpos) (.Call (.Name "enumerate" p) [e] [] pos) (tI G W (itEnum g)) := by
  refine PI.of (pi_enum hg hm ha hs) fun σ H Q ⟨fp, fv, ρ, I, q⟩ => ?_
  refine ⟨fp, fv, ρ, I, ?_⟩
  unfold itEnum at q
  cases zg : g ρ with
  | ex e =>
    rw [zg] at q
    exact q
  | bad =>
    rw [zg] at q
    exact q.elim
  | ok gd =>
    obtain ⟨ds, m⟩ := gd
    rw [zg] at q
    intro vs H1 e1 v1
    replace q : yI G W fp σ H Q (enumR m ds) := q
    rw [hK]
    match ds, v1, q with
    | [], _, q => exact q.elim
    | a :: b :: t, _, q => cases a <;> exact q.elim
    | [.lst xs], v1, q =>
      have key : yI G W fp σ H Q (.ok (enumD xs)) ∧ Reps G (Own fp) H1 [.lst xs] vs := by
        cases m with
        | fr => exact ⟨q, Freshs.rep v1 fun a ⟨i, z⟩ => I.al i a z⟩
        | sh => exact ⟨q, v1⟩
        | tr => exact q.elim
      obtain ⟨q, rr⟩ := key
      obtain ⟨v, rfl, a, ws, rfl, na, sa, ra⟩ := one_of rr
      exact ⟨a, ws, rfl, SqL.of sa, q _ H1 e1 (wk_enum (fun H k t => SqL.of (k a _ na sa)) ra)⟩
    | [.non], _, q => exact q.elim
    | [.bl _], _, q => exact q.elim
    | [.int _], _, q => exact q.elim
    | [.str _], _, q => exact q.elim
    | [.tup _], _, q => exact q.elim
    | [.dct _ _], _, q => exact q.elim
    | [.obj _ _ _], _, q => exact q.elim
    | [.scr _], _, q => exact q.elim
    | [.ty _], _, q => exact q.elim
    | [.cls _], _, q => exact q.elim
/-! ### d.items() -/
def itemsD (ks : List Key) (ds : List D) : List D := List.zipWith pairD (ks.map keyD) ds
theorem wk_items {a : Addr} {od : Obj} {kvs : List (Key × V)} {av : Addr → Prop} {H1 : Hp} {ds : List D} (s : ∀ H, Av av H1 H → H a = some (.frz od (.dK kvs))) (r : Reps G av H1 ds (kvs.map (·.2))) : Wk G av (Iti a od kvs) H1 (itemsD (kvs.map (·.1)) ds) := by
  intro H k t i
  have sh := s H k
  have hl : ds.length = kvs.length := by rw [r.length, List.length_map]
  refine ⟨fun d hd => ?_, fun hl' => ?_⟩
  · obtain ⟨kk, x, h1, h2, rfl⟩ := zipW_at hd
    obtain ⟨v, hv, rv⟩ := r.get h2
    rw [List.getElem?_map] at hv
    rw [List.map_map, List.getElem?_map] at h1
    cases q : kvs[i]? with
    | none =>
      rw [q] at hv
      cases hv
    | some kv =>
      rw [q] at hv h1
      cases hv
      cases h1
      refine ⟨⟨sh, (List.getElem?_eq_some_iff.mp q).1⟩, fun z H' yy => ?_⟩
      obtain ⟨T, k1, v1, q1, rfl, hT, rfl⟩ := yy
      rw [q] at q1
      cases q1
      have sm := same_new (o := .tup [kV k1, v1]) hT
      refine ⟨sm, fun av' k' => ⟨T, _, rfl, SqT.of upd_same, _, [v1], rfl, ?_, v1, [], rfl, (Rep.wk k t k' rv).same sm, rfl⟩⟩
      cases k1 <;> rfl
  · unfold itemsD at hl'
    rw [List.length_zipWith, List.length_map, List.length_map, hl, Nat.min_self] at hl'
    exact ⟨sh, by omega⟩
/-- of a new dict -/
def itItems (f : E) : EI := fun ρ => (f ρ).bind fun a => match a.1 with
  | .dct ks ds => (match a.2 with
    | .fr => if D.imms ds = true then .ok (itemsD ks ds) else .bad
    | _ => .bad)
  | _ => .bad
theorem pi_ofItems {e : Expr} {f : E} {apos cpos tpos : Pos} {elts : List Expr} {kk : Nat} (he : PE X e (tE G W f)) (hbase : attributeBase e "items" X.env (eval e X.env) = eval e X.env := by rfl) (hline : (apos.endLine == cpos.line) = true := by rfl) :
    PI X (.Tuple elts kk tpos) (.Call (.Attribute e "items" apos) [] [] cpos) (tI G W (itItems f)) := by
  refine PI.of (pi_items (pe_frz he) hbase hline) fun σ H Q ⟨fp, fv, ρ, I, q⟩ => ?_
  refine tE.of_bind (y := yI G W fp σ H Q) I q (fun e h => h) (fun h => h) fun d m q v H1 e1 v1 => ?_
  cases d with
  | dct ks ds =>
    cases m with
    | fr =>
      by_cases im : D.imms ds = true
      · replace q : yI G W fp σ H Q (if D.imms ds = true then .ok (itemsD ks ds) else .bad) := q
        rw [if_pos im] at q
        obtain ⟨g, ⟨a, kvs, f', rfl, rfl, ha, hk, ot⟩, nd, fr⟩ := v1
        have nd' := List.nodup_cons.mp nd
        refine ⟨a, _, ha, trivial, fun od => ⟨a, od, kvs, rfl, upd_same, ?_⟩⟩
        have sm : Same H (upd H1 a (.frz od (.dK kvs))) := fun b o hb => by
          rw [upd_ne (fun z => by rw [z, fr a List.mem_cons_self] at hb; cases hb)]
          exact e1 b o hb
        refine q _ _ sm ?_
        subst hk
        have own0 : ∀ b, Own fp b → ∃ o, H b = some o := fun b ⟨i, z⟩ => I.al i b z
        refine wk_items (fun H2 k => k a _ (fun z => ?_) upd_same) ?_
        · obtain ⟨o, q⟩ := own0 a z
          rw [fr a List.mem_cons_self] at q
          cases q
        · have r0 : Reps G Nav H1 ds (kvs.map (·.2)) := OTs.rl ot
          have r1 : Reps G Nav (upd H1 a (.frz od (.dK kvs))) ds (kvs.map (·.2)) := (OTs.rl (OTs.ext (tk_upd ha trivial) ds _ [] (fun _ z => by cases z) (Reps.own ds _ im r0)))
          exact Freshs.rep (H := H) (Freshs.of_imms im r1) own0
      · replace q : yI G W fp σ H Q (if D.imms ds = true then .ok (itemsD ks ds) else .bad) := q
        rw [if_neg im] at q
        exact q.elim
    | sh => exact q.elim
    | tr => exact q.elim
  | _ => exact q.elim
/-- for .. in d.items(), d a slot that owns its dict, of data that can't be changed -/
def sForI (i : Nat) (st : Tg) (body : S) : S := fun ρ => match Sl.mine ρ[i]? with
  | some (.dct ks ds) => if D.imms ds = true then forL st body (itemsD ks ds) (ρ.set i (.shr (.dct ks ds))) else .bad
  | _ => .bad
theorem px_forI {i : Nat} {x : Str} {p apos cpos tpos pos : Pos} {elts : List Expr} {kk : Nat} {body : List Stmt} {st : Tg} {f : S} (hp : PassesOwn (model X.prog X.w) X.A X.env X.xe) (hc : X.calm = true) (hv : PE X (.Name x p) (tVar i)) (hg : PG X (.Tuple elts kk tpos) (gS G st)) (hb : PSs X body (tS G W f))
    (hbase : attributeBase (.Name x p) "items" X.env (eval (.Name x p) X.env) = eval (.Name x p) X.env := by rfl) (hline : (apos.endLine == cpos.line) = true := by rfl) (hs : ∀ y, foldedSetIterable (.Call (.Attribute (.Name x p) "items" apos) [] [] cpos) X.env y = pure y := by intro _; rfl) :
    PS X (.For (.Tuple elts kk tpos) (.Call (.Attribute (.Name x p) "items" apos) [] [] cpos) body [] pos) (tS G W (sForI i st f)) := by
  refine PS.of (ps_frz (ps_for hp hc (pi_items hv hbase hline) hg hb hs)) fun D' σ H ⟨H0, io, fp, fv, ρ, I, q⟩ => ?_
  unfold sForI at q
  split at q
  · rename_i ks ds hmine
    by_cases im : D.imms ds = true
    · rw [if_pos im] at q
      obtain ⟨a, kvs, f', hσ, ha, hk, na, nd, al, ot, _⟩ := I.dct hmine
      refine ⟨a, _, ha, trivial, fun od => ⟨_, hσ, a, od, kvs, rfl, upd_same, ?_⟩⟩
      have hi : i < ρ.length := by
        cases e : ρ[i]? with
        | none =>
          rw [e] at hmine
          cases hmine
        | some s => exact (List.getElem?_eq_some_iff.mp e).1
      have hain : a ∈ fp i := by
        obtain ⟨v, hv', a', kvs', f2, rfl, hf, ha', hk', ot'⟩ := I.l.mine hmine
        rw [hσ] at hv'
        cases hv'
        rw [hf]
        exact List.mem_cons_self
      have r0 : Reps G Nav H ds (kvs.map (·.2)) := OTs.rl ot
      have r1 : OTs G (upd H a (.frz od (.dK kvs))) ds (kvs.map (·.2)) [] := OTs.ext (tk_upd ha trivial) ds _ [] (fun _ z => by cases z) (Reps.own ds _ im r0)
      have nown : ¬ Own (upF fp i []) a := fun ⟨j, hj⟩ => by
        by_cases z : j = i
        · subst z
          rw [upF_same] at hj
          cases hj
        · rw [upF_ne z] at hj
          exact I.l.dj j i z a hj hain
      have J : FSR G H0 io (upF fp i []) fv σ (upd H a (.frz od (.dK kvs))) (ρ.set i (.shr (.dct ks ds))) := by
        refine I.mut hi (fun b o nb hb => ?_) (tk_upd ha trivial) List.nodup_nil (fun _ z => by cases z) (fun _ z => by cases z) ⟨_, hσ, a, kvs, rfl, nown, .inr ⟨od, upd_same⟩, hk, ?_⟩
        · rw [upd_ne fun z => nb (by rw [z]; exact hain)]
          exact hb
        · exact OTs.rep ds _ [] (fun _ z => by cases z) r1
      refine for_wk J (Same.refl _) ?_ q
      subst hk
      exact wk_items (fun H2 k => k a _ nown upd_same) (OTs.rep ds _ [] (fun _ z => by cases z) r1)
    · rw [if_neg im] at q
      exact q.elim
  · exact q.elim
end
@[simp] theorem itEnum_eq (g : EA) (ρ : Rho) : itEnum g ρ = (g ρ).bind fun a => enumR a.2 a.1 := rfl
@[simp] theorem enumR_fr (xs : List D) : enumR .fr [.lst xs] = .ok (enumD xs) := rfl
@[simp] theorem enumR_sh (xs : List D) : enumR .sh [.lst xs] = .ok (enumD xs) := rfl
/-- the items of a dict at hand -/
def itemsM (a : D × Md) : R (List D) := match a.1 with
  | .dct ks ds => (match a.2 with
    | .fr => if D.imms ds = true then .ok (itemsD ks ds) else .bad
    | _ => .bad)
  | _ => .bad
@[simp] theorem itItems_eq (f : E) (ρ : Rho) : itItems f ρ = (f ρ).bind itemsM := rfl
@[simp] theorem itemsM_dct (ks : List Key) (ds : List D) : itemsM (.dct ks ds, .fr) = if D.imms ds = true then .ok (itemsD ks ds) else .bad := rfl
def Sl.fori (i : Nat) (st : Tg) (body : S) (ρ : Rho) (s : Option Sl) : SO := match Sl.mine s with
  | some (.dct ks ds) => if D.imms ds = true then forL st body (itemsD ks ds) (ρ.set i (.shr (.dct ks ds))) else .bad
  | _ => .bad
@[simp] theorem sForI_eq (i : Nat) (st : Tg) (body : S) (ρ : Rho) : sForI i st body ρ = Sl.fori i st body ρ ρ[i]? := rfl
@[simp] theorem fori_own (i : Nat) (st : Tg) (body : S) (ρ : Rho) (ks : List Key) (ds : List D) : Sl.fori i st body ρ (some (.own (.dct ks ds))) = if D.imms ds = true then forL st body (itemsD ks ds) (ρ.set i (.shr (.dct ks ds))) else .bad := rfl
end Dn
set_option Elab.async false
set_option linter.all false
set_option maxRecDepth 100000
set_option maxHeartbeats 2000000
/-! Dn42: xs.clear(), xs.reverse(), x = xs.pop(); what stands in a list or dict changed in place. -/
namespace Dn
open PySem L2
section
variable {X : Cx} {G : Cts} {W : WX}
def sClr (i : Nat) : S := fun ρ => match Sl.mine ρ[i]? with
  | some (.lst _) => .nx (ρ.set i (Sl.re ρ[i]? (.lst [])))
  | _ => .bad
theorem px_clr {i : Nat} {st : Stmt} (h : PS X st (tDrop (tBM0 X.K "list" rClear (tVar i)))) : PS X st (tS G W (sClr i)) := by
  refine PS.of h fun D' σ H ⟨H0, io, fp, fv, ρ, I, q⟩ => ?_
  unfold sClr at q
  split at q
  · rename_i xs z
    obtain ⟨a, vs, fa, hv, ha, na, nd, al, ot, k⟩ := I.lst z
    refine ⟨_, hv, .inl ⟨rfl, vs, SqL.of ha⟩, a, vs, rfl, rfl, ha, ?_⟩
    obtain ⟨fp', J⟩ := k H [] [] [] (Same.refl H) ⟨rfl, rfl⟩ List.nodup_nil List.not_mem_nil (fun b z => by cases z)
    exact q σ _ fp' J
  · exact q.elim
def sRev (i : Nat) : S := fun ρ => match Sl.mine ρ[i]? with
  | some (.lst xs) => if D.imms xs = true then .nx (ρ.set i (Sl.re ρ[i]? (.lst xs.reverse))) else .bad
  | _ => .bad
theorem imms_rev {xs : List D} (h : D.imms xs = true) : D.imms xs.reverse = true := imms_mem fun x hx => of_imms h x (List.mem_reverse.mp hx)
theorem px_rev {i : Nat} {st : Stmt} (h : PS X st (tDrop (tBM0 X.K "list" rReverse (tVar i)))) : PS X st (tS G W (sRev i)) := by
  refine PS.of h fun D' σ H ⟨H0, io, fp, fv, ρ, I, q⟩ => ?_
  unfold sRev at q
  split at q
  · rename_i xs z
    by_cases im : D.imms xs = true
    · rw [if_pos im] at q
      obtain ⟨a, vs, hv, ha, r, k⟩ := I.lstF z
      refine ⟨_, hv, .inl ⟨rfl, vs, SqL.of ha⟩, a, vs, rfl, rfl, ha, ?_⟩
      obtain ⟨fp', J⟩ := k H xs.reverse vs.reverse (Same.refl H) (imms_rev im) (Reps.rev r)
      exact q σ _ fp' J
    · rw [if_neg im] at q
      exact q.elim
  · exact q.elim
/-- x = xs.pop() -/
def sPop (j i : Nat) : S := fun ρ => match Sl.mine ρ[i]? with
  | some (.lst xs) => if D.imms xs = true then (match xs.getLast? with
    | some d => (match stSl j d .sh (ρ.set i (Sl.re ρ[i]? (.lst xs.dropLast))) with
      | some ρ' => .nx ρ'
      | none => .bad)
    | none => .bad) else .bad
  | _ => .bad
theorem Reps.dropLast {av : Addr → Prop} {H : Hp} : ∀ {ds : List D} {vs : List V}, Reps G av H ds vs → Reps G av H ds.dropLast vs.dropLast
  | [], _, h => by
    obtain rfl : _ = [] := h
    rfl
  | [d], _, h => by
    obtain ⟨v, rfl, _⟩ := one_of h
    exact rfl
  | d :: e :: ds, _, ⟨v, r, er, h, hs⟩ => by
    subst er
    obtain ⟨u, r2, er2, h2, hs2⟩ := hs
    subst er2
    exact ⟨v, _, rfl, h, Reps.dropLast (ds := e :: ds) (vs := u :: r2) ⟨u, r2, rfl, h2, hs2⟩⟩
theorem imms_dropLast {xs : List D} (h : D.imms xs = true) : D.imms xs.dropLast = true := imms_mem fun x hx => of_imms h x (List.dropLast_subset xs hx)
theorem px_pop {i j : Nat} {st : Stmt} (h : PS X st (tAsg (tBM0 X.K "list" rPop (tVar i)) (gName j))) : PS X st (tS G W (sPop j i)) := by
  refine PS.of h fun D' σ H ⟨H0, io, fp, fv, ρ, I, q⟩ => ?_
  unfold sPop at q
  split at q
  · rename_i xs z
    by_cases im : D.imms xs = true
    · rw [if_pos im] at q
      obtain ⟨a, vs, hv, ha, r, k⟩ := I.lstF z
      cases el : xs.getLast? with
      | none =>
        rw [el] at q
        exact q.elim
      | some d =>
        rw [el] at q
        simp only at q
        rw [List.getLast?_eq_getElem?] at el
        obtain ⟨y, hy, ry⟩ := r.get el
        rw [r.length] at hy
        refine ⟨_, hv, .inl ⟨rfl, vs, SqL.of ha⟩, a, vs, y, rfl, rfl, ha, hy, ?_⟩
        obtain ⟨fp', J⟩ := k H xs.dropLast vs.dropLast (Same.refl H) (imms_dropLast im) (Reps.dropLast r)
        show D'.nx (σ.set j (some y)) _
        cases z2 : stSl j d .sh (ρ.set i (Sl.re ρ[i]? (.lst xs.dropLast))) with
        | none =>
          rw [z2] at q
          exact q.elim
        | some ρ' =>
          rw [z2] at q
          have dim : d.imm = true := of_imms im d (List.mem_of_getElem? el)
          have o1 : OT G H d y [] := Rep.own d y dim ry
          have o2 : OT G (upd H a (.lst vs.dropLast)) d y [] := OT.ext (tk_upd ha trivial) d y [] (fun _ z => by cases z) o1
          obtain ⟨fp2, J2⟩ := J.store (Same.refl _) (m := .sh) (d := d) (v := y) (OT.rep d y [] (fun _ z => by cases z) o2) z2
          exact q _ _ fp2 J2
    · rw [if_neg im] at q
      exact q.elim
  · exact q.elim
/-! ### a thing within -/
mutual
theorem OT.none {H : Hp} : ∀ {d : D} {v : V} {f : List Addr}, d.imm = true → OT G H d v f → f = []
  | .non, v, _, _, h => h.2
  | .bl _, v, _, _, h => h.2
  | .int _, v, _, _, h => h.2
  | .str _, v, _, _, h => h.2
  | .tup ds, v, f, i, h => by
    obtain ⟨a, vs, e, s, r⟩ := h
    exact OTs.none i r
  | .lst _, _, _, i, _ => by cases i
  | .dct _ _, _, _, i, _ => by cases i
  | .obj _ _ _, _, _, i, _ => by cases i
  | .scr _, _, _, _, h => h.2
  | .ty _, _, _, _, h => h.2
  | .cls _, _, _, _, h => h.2
theorem OTs.none {H : Hp} : ∀ {ds : List D} {vs : List V} {f : List Addr}, D.imms ds = true → OTs G H ds vs f → f = []
  | [], _, _, _, h => h.2
  | d :: ds, _, _, i, h => by
    obtain ⟨v, r, f1, f2, e, ef, h1, h2⟩ := h
    have i' : (d.imm && D.imms ds) = true := i
    rw [Bool.and_eq_true] at i'
    rw [ef, OT.none i'.1 h1, OTs.none i'.2 h2]
    rfl
end
/-- one of several parts is another one, changed in place -/
theorem OTs.focus {H : Hp} : ∀ {ds : List D} {vs : List V} {f : List Addr} {j : Nat} {d : D}, OTs G H ds vs f → f.Nodup → ds[j]? = some d → ∃ u g, vs[j]? = some u ∧ OT G H d u g ∧ (∀ a ∈ g, a ∈ f) ∧
    ∀ (H' : Hp) (d' : D), Tk G H H' → (∀ a, a ∉ g → (∃ o, H a = some o) → H' a = H a) → OT G H' d' u g → OTs G H' (ds.set j d') vs f
  | [], _, _, _, _, _, _, e => by simp at e
  | x :: ds, _, _, 0, d, ⟨v, r, f1, f2, rfl, rfl, h1, h2⟩, nd, e => by
    simp at e
    subst e
    have nd' := List.nodup_append.mp nd
    refine ⟨v, f1, rfl, h1, fun a ha => List.mem_append_left _ ha, fun H' d' t k o => ?_⟩
    refine ⟨v, r, f1, f2, rfl, rfl, o, OTs.ext t ds r f2 (fun a ha => ?_) h2⟩
    obtain ⟨oo, q, _⟩ := OTs.there ds r f2 h2 a ha
    exact k a (fun z => nd'.2.2 a z a ha rfl) ⟨oo, q⟩
  | x :: ds, _, _, j + 1, d, ⟨v, r, f1, f2, rfl, rfl, h1, h2⟩, nd, e => by
    have nd' := List.nodup_append.mp nd
    obtain ⟨u, g, a1, a2, a3, a4⟩ := OTs.focus (j := j) h2 nd'.2.1 (by simpa using e)
    refine ⟨u, g, by simpa using a1, a2, fun a ha => List.mem_append_right _ (a3 a ha), fun H' d' t k o => ?_⟩
    refine ⟨v, r, f1, f2, rfl, rfl, OT.ext t x v f1 (fun a ha => ?_) h1, a4 H' d' t k o⟩
    obtain ⟨oo, q, _⟩ := OT.there x v f1 h1 a ha
    exact k a (fun z => nd'.2.2 a ha a (a3 a z) rfl) ⟨oo, q⟩
/-- the slot's list, one item of it a list, of what can't be changed -/
theorem FSR.inL {H0 H : Hp} {io : Addr → Prop} {fp : Nat → List Addr} {fv : Nat → Option V} {σ : L2.St} {ρ : Rho} (I : FSR G H0 io fp fv σ H ρ) {i j : Nat} {ds ys : List D} (q : Sl.mine ρ[i]? = some (.lst ds)) (e : ds[j]? = some (.lst ys)) (im : D.imms ys = true) :
    ∃ a vs b ws, σ[i]? = some (some (.ref a)) ∧ H a = some (.lst vs) ∧ vs[j]? = some (.ref b) ∧ H b = some (.lst ws) ∧ Reps G Nav H ys ws ∧ ds.length = vs.length ∧
    ∀ H1 ys' ws', Same H H1 → D.imms ys' = true → Reps G Nav H1 ys' ws' → ∃ fp', FSR G H0 io fp' fv σ (upd H1 b (.lst ws')) (ρ.set i (Sl.re ρ[i]? (.lst (ds.set j (.lst ys'))))) := by
  obtain ⟨v, hv, a, vs, f, rfl, hf, ha, ot⟩ := I.l.mine q
  have nd := I.l.nd i
  rw [hf] at nd
  have nd' := List.nodup_cons.mp nd
  have hi : i < ρ.length := by
    cases e : ρ[i]? with
    | none =>
      rw [e] at q
      cases q
    | some s => exact (List.getElem?_eq_some_iff.mp e).1
  obtain ⟨u, g, h1, h2, h3, h4⟩ := OTs.focus ot nd'.2 e
  obtain ⟨b, ws, g', rfl, rfl, hb, o2⟩ := h2
  have rw' : Reps G Nav H ys ws := OTs.rl o2
  have nf : g' = [] := OTs.none im o2
  subst nf
  refine ⟨a, vs, b, ws, hv, ha, h1, hb, rw', OTs.length (f := []) ot, fun H1 ys' ws' e1 im' r' => ?_⟩
  have hbf : b ∈ f := h3 b List.mem_cons_self
  have hba : b ≠ a := fun z => nd'.1 (z ▸ hbf)
  have hb1 : H1 b = some (.lst ws) := e1 b _ hb
  have t1 : Tk G H1 (upd H1 b (.lst ws')) := tk_upd hb1 trivial
  have J := I.same e1
  have own1 : OTs G (upd H1 b (.lst ws')) ys' ws' [] := OTs.ext t1 ys' ws' [] (fun _ z => by cases z) (Reps.own ys' ws' im' r')
  have ots : OTs G (upd H1 b (.lst ws')) (ds.set j (.lst ys')) vs f := by
    refine h4 _ _ ((tk_same e1).trans t1) (fun x hx ⟨o, ho⟩ => ?_) ⟨b, ws', [], rfl, rfl, upd_same, own1⟩
    rw [upd_ne (fun z => hx (by rw [z]; exact List.mem_cons_self)), ho, e1 x o ho]
  have whole : OT G (upd H1 b (.lst ws')) (.lst (ds.set j (.lst ys'))) (.ref a) (fp i) := by
    rw [hf]
    exact ⟨a, vs, f, rfl, rfl, by rw [upd_ne (Ne.symm hba)]; exact e1 a _ ha, ots⟩
  have hs : SlOk G (Own (upF fp i (fp i))) (upd H1 b (.lst ws')) (fp i) (σ[i]?) (fv i) (Sl.re ρ[i]? (.lst (ds.set j (.lst ys')))) := by
    have old := J.l.sl i
    cases es : ρ[i]? with
    | none =>
      rw [es] at q
      cases q
    | some s =>
      rw [es] at q
      have old := old s es
      cases s with
      | nil => cases q
      | shr d => cases q
      | exc _ => cases q
      | own d => exact ⟨_, hv, whole⟩
      | io d =>
        obtain ⟨v2, w1, w2, _⟩ := old
        rw [hv] at w1
        cases w1
        exact ⟨_, hv, w2, whole⟩
  refine ⟨_, J.mut hi (fun x o nx hx => ?_) t1 (I.l.nd i) (fun x hx => .inl hx) (fun x hx => ?_) hs⟩
  · rw [upd_ne (fun z => nx (by rw [z, hf]; exact List.mem_cons_of_mem _ hbf))]
    exact hx
  · by_cases z : x = b
    · exact ⟨_, by rw [z]; exact upd_same⟩
    · obtain ⟨o, q⟩ := J.l.al i x hx
      exact ⟨o, by rw [upd_ne z]; exact q⟩
/-- the place of an item -/
def placeN (n : Nat) (d : D) : Option Nat := match d with
  | .int j => if 0 ≤ j ∧ j < n then some j.toNat else none
  | _ => none
theorem placeN_some {n k : Nat} {d : D} (h : placeN n d = some k) : ∃ j : Int, d = .int j ∧ 0 ≤ j ∧ j < n ∧ k = j.toNat := by
  unfold placeN at h
  split at h
  · rename_i j
    by_cases c : 0 ≤ j ∧ j < n
    · rw [if_pos c] at h
      exact ⟨j, rfl, c.1, c.2, (Option.some.inj h).symm⟩
    · rw [if_neg c] at h
      cases h
  · cases h
/-- a list that stands in a list: its place and what it holds -/
def inL (s : D) (k : D) : Option (List D × Nat × List D) := match s with
  | .lst ds => (placeN ds.length k).bind fun n => match ds[n]? with
    | some (.lst ys) => if D.imms ys = true then some (ds, n, ys) else none
    | _ => none
  | _ => none
theorem inL_some {s : D} {k : D} {ds ys : List D} {n : Nat} (h : inL s k = some (ds, n, ys)) : s = .lst ds ∧ placeN ds.length k = some n ∧ ds[n]? = some (.lst ys) ∧ D.imms ys = true := by
  unfold inL at h
  split at h
  · rename_i es
    cases q : placeN es.length k with
    | none =>
      rw [q] at h
      cases h
    | some m =>
      rw [q] at h
      simp only [Option.bind_some] at h
      split at h
      · rename_i zs e
        by_cases im : D.imms zs = true
        · rw [if_pos im] at h
          cases h
          exact ⟨rfl, q, e, im⟩
        · rw [if_neg im] at h
          cases h
      · cases h
  · cases h
/-- a change of x[k] in place -/
def sInn (i : Nat) (kf : E) (go : Rho → List D → Nat → List D → SO) : S := fun ρ => match Sl.mine ρ[i]? with
  | some s => onE (kf ρ) ρ fun k _ => (match inL s k with
    | some (ds, n, ys) => go ρ ds n ys
    | none => .bad)
  | none => .bad
theorem tVar_tE {i : Nat} {kf : E} {go : Rho → List D → Nat → List D → SO} {D' : Ends} {H0 H : Hp} {io : Addr → Prop} {fp : Nat → List Addr} {fv : Nat → Option V} {σ : L2.St} {ρ : Rho} {P : VK} (I : FSR G H0 io fp fv σ H ρ) (q : SK G W H0 io fv D' (sInn i kf go ρ))
    (k : ∀ a vs b ws ds n ys H1 , σ[i]? = some (some (.ref a)) → Same H H1 → H1 a = some (.lst vs) → H1 b = some (.lst ws) → Sl.mine ρ[i]? = some (.lst ds) → ds[n]? = some (.lst ys) → D.imms ys = true → Reps G Nav H1 ys ws → (∀ H2 ys' ws', Same H H2 → D.imms ys' = true → Reps G Nav H2 ys' ws' → ∃ fp', FSR G H0 io fp' fv σ (upd H2 b (.lst ws')) (ρ.set i (Sl.re ρ[i]? (.lst (ds.set n (.lst ys')))))) → SK G W H0 io fv D' (go ρ ds n ys) → P (.ref b) H1) :
    tOp (rIxL G.K) (tVar i) (tE G W kf) σ H P := by
  unfold sInn at q
  split at q
  · rename_i s hm
    obtain ⟨v, hv, o⟩ := I.l.mine hm
    refine ⟨v, hv, ?_⟩
    refine tE.st (y := fun r => SK G W H0 io fv D' (onE r ρ _)) I q (fun e h => h) (fun h => h) fun d m q y H1 e1 v1 => ?_
    replace q : SK G W H0 io fv D' (match inL s d with
      | some (ds, n, ys) => go ρ ds n ys
      | none => .bad) := q
    cases z : inL s d with
    | none =>
      rw [z] at q
      exact q.elim
    | some t =>
      obtain ⟨ds, n, ys⟩ := t
      rw [z] at q
      obtain ⟨rfl, hp, hn, im⟩ := inL_some z
      obtain ⟨j, rfl, j0, j1, rfl⟩ := placeN_some hp
      obtain ⟨a, vs, b, ws, g1, g2, g3, g4, g5, g6, g7⟩ := I.inL hm hn im
      rw [hv] at g1
      cases g1
      obtain rfl : y = .int j := v1.tr
      have ha := e1 a _ g2
      have hb := e1 b _ g4
      refine ⟨a, vs, j, .ref b, rfl, rfl, SqL.of ha, ?_, k a vs b ws ds j.toNat ys H1 hv e1 ha hb hm hn im (Reps.same e1 g5) g7 q⟩
      rw [atI_get' j0 (by rw [← g6]; exact j1), g3]
  · exact q.elim
def sClIx (i : Nat) (kf : E) : S := sInn i kf fun ρ ds n _ => .nx (ρ.set i (Sl.re ρ[i]? (.lst (ds.set n (.lst [])))))
theorem px_clIx {i : Nat} {kf : E} {st : Stmt} (h : PS X st (tDrop (tBM0 X.K "list" rClear (tOp (rIxL X.K) (tVar i) (tE G W kf))))) (hK : X.K = G.K := by rfl) : PS X st (tS G W (sClIx i kf)) := by
  refine PS.of h fun D' σ H ⟨H0, io, fp, fv, ρ, I, q⟩ => ?_
  rw [hK]
  refine tVar_tE I q fun a vs b ws ds n ys H1 hv e1 ha hb hm hn im r fin q => ?_
  refine ⟨.inl ⟨rfl, ws, SqL.of hb⟩, b, ws, rfl, rfl, hb, ?_⟩
  obtain ⟨fp', J⟩ := fin H1 [] [] e1 rfl rfl
  exact q σ _ fp' J
/-- x[k].append(e), of what can't be changed -/
def sApIx (i : Nat) (kf f : E) : S := sInn i kf fun ρ ds n ys => onE (f ρ) ρ fun d _ => if d.imm = true ∧ ys.length < 1000000 then .nx (ρ.set i (Sl.re ρ[i]? (.lst (ds.set n (.lst (ys ++ [d])))))) else .bad
theorem px_apIx {i : Nat} {kf f : E} {st : Stmt} (h : PS X st (tDrop (tBM X.K "list" rAppend (tOp (rIxL X.K) (tVar i) (tE G W kf)) (tCons (tE G W f) tNil)))) (hK : X.K = G.K := by rfl) : PS X st (tS G W (sApIx i kf f)) := by
  refine PS.of h fun D' σ H ⟨H0, io, fp, fv, ρ, I, q⟩ => ?_
  rw [hK]
  refine tVar_tE I q fun a vs b ws ds n ys H1 hv e1 ha hb hm hn im r fin q => ?_
  refine ⟨.inl ⟨rfl, ws, SqL.of hb⟩, ?_⟩
  have I1 := I.same e1
  refine tE.st (y := fun r => SK G W H0 io fv D' (onE r ρ _)) I1 q (fun e h => h) (fun h => h) fun d m q y H2 e2 v2 => ?_
  replace q : SK G W H0 io fv D' (if d.imm = true ∧ ys.length < 1000000 then .nx (ρ.set i (Sl.re ρ[i]? (.lst (ds.set n (.lst (ys ++ [d])))))) else .bad) := q
  by_cases c : d.imm = true ∧ ys.length < 1000000
  · rw [if_pos c] at q
    refine ⟨b, ws, y, rfl, rfl, e2 b _ hb, ?_, ?_⟩
    · rw [← r.length]
      exact line_lt c.2
    · obtain ⟨fp', J⟩ := fin H2 (ys ++ [d]) (ws ++ [y]) (e1.trans e2) (by rw [imms_append, im, imms_cons, c.1]; rfl) (Reps.append (Reps.same e2 r) ⟨y, [], rfl, v2.tr, rfl⟩)
      exact q σ _ fp' J
  · rw [if_neg c] at q
    exact q.elim
end
/-! ### for simp -/
def Sl.clr (i : Nat) (ρ : Rho) (s : Option Sl) : SO := match Sl.mine s with
  | some (.lst _) => .nx (ρ.set i (Sl.re s (.lst [])))
  | _ => .bad
@[simp] theorem sClr_eq (i : Nat) (ρ : Rho) : sClr i ρ = Sl.clr i ρ ρ[i]? := rfl
@[simp] theorem clr_own (i : Nat) (ρ : Rho) (xs : List D) : Sl.clr i ρ (some (.own (.lst xs))) = .nx (ρ.set i (.own (.lst []))) := rfl
def Sl.rev (i : Nat) (ρ : Rho) (s : Option Sl) : SO := match Sl.mine s with
  | some (.lst xs) => if D.imms xs = true then .nx (ρ.set i (Sl.re s (.lst xs.reverse))) else .bad
  | _ => .bad
@[simp] theorem sRev_eq (i : Nat) (ρ : Rho) : sRev i ρ = Sl.rev i ρ ρ[i]? := rfl
@[simp] theorem rev_own (i : Nat) (ρ : Rho) (xs : List D) : Sl.rev i ρ (some (.own (.lst xs))) = if D.imms xs = true then .nx (ρ.set i (.own (.lst xs.reverse))) else .bad := rfl
theorem sPop_own {i j : Nat} {ρ : Rho} {xs : List D} {d : D} (h : ρ[i]? = some (.own (.lst (xs ++ [d])))) (im : D.imms (xs ++ [d]) = true) (hj : free (ρ.set i (.own (.lst xs)))[j]?) : sPop j i ρ = .nx ((ρ.set i (.own (.lst xs))).set j (.shr d)) := by
  unfold sPop
  rw [h]
  simp only [mine_own, im, if_true, List.getLast?_concat, re_own, List.dropLast_concat]
  rw [stSl_sh hj]
def inLR (s : D) (k : D) : R (List D × Nat × List D) := R.opt (inL s k)
def SO.oni (r : R (List D × Nat × List D)) (f : List D → Nat → List D → SO) : SO := match r with
  | .ok (ds, n, ys) => f ds n ys
  | _ => .bad
@[simp] theorem oni_ok (ds : List D) (n : Nat) (ys : List D) (f : List D → Nat → List D → SO) : SO.oni (.ok (ds, n, ys)) f = f ds n ys := rfl
def Sl.inn (i : Nat) (kf : E) (go : Rho → List D → Nat → List D → SO) (ρ : Rho) (s : Option Sl) : SO := match Sl.mine s with
  | some s => onE (kf ρ) ρ fun k _ => SO.oni (R.opt (inL s k)) (go ρ)
  | none => .bad
@[simp] theorem sInn_eq (i : Nat) (kf : E) (go : Rho → List D → Nat → List D → SO) (ρ : Rho) : sInn i kf go ρ = Sl.inn i kf go ρ ρ[i]? := by
  unfold sInn Sl.inn
  cases Sl.mine ρ[i]? with
  | none => rfl
  | some s =>
    simp only
    congr 1
    funext k m
    cases inL s k <;> rfl
@[simp] theorem inn_own (i : Nat) (kf : E) (go : Rho → List D → Nat → List D → SO) (ρ : Rho) (s : D) : Sl.inn i kf go ρ (some (.own s)) = onE (kf ρ) ρ fun k _ => SO.oni (R.opt (inL s k)) (go ρ) := rfl
@[simp] theorem sClIx_eq (i : Nat) (kf : E) (ρ : Rho) : sClIx i kf ρ = Sl.inn i kf (fun ρ ds n _ => .nx (ρ.set i (Sl.re ρ[i]? (.lst (ds.set n (.lst [])))))) ρ ρ[i]? := by
  unfold sClIx
  rw [sInn_eq]
@[simp] theorem sApIx_eq (i : Nat) (kf f : E) (ρ : Rho) : sApIx i kf f ρ = Sl.inn i kf (fun ρ ds n ys => onE (f ρ) ρ fun d _ => if d.imm = true ∧ ys.length < 1000000 then .nx (ρ.set i (Sl.re ρ[i]? (.lst (ds.set n (.lst (ys ++ [d])))))) else .bad) ρ ρ[i]? := by
  unfold sApIx
  rw [sInn_eq]
theorem inL_at {ds ys : List D} {n : Nat} (h : ds[n]? = some (.lst ys)) (im : D.imms ys = true) : inL (.lst ds) (.int (n : Nat)) = some (ds, n, ys) := by
  have hn : n < ds.length := (List.getElem?_eq_some_iff.mp h).1
  unfold inL placeN
  simp only
  rw [if_pos (by omega), Option.bind_some, Int.toNat_natCast, h]
  simp only
  rw [if_pos im]
end Dn
set_option Elab.async false
set_option linter.all false
set_option maxRecDepth 100000
set_option maxHeartbeats 2000000
/-! Dn43: xs += ys; written tuples of the module; t.index(text). -/
namespace Dn
open PySem L2
section
variable {X : Cx} {G : Cts} {W : WX}
theorem ip_ext : PIp X .Add rExt2 := fun pins s σ H x y v u Q I rx ry h => iop_ext pins s σ H x y v u Q I rx ry h
/-- xs += ys, ys of what can't be changed -/
def sExt (i : Nat) (f : E) : S := fun ρ => match Sl.mine ρ[i]? with
  | some (.lst xs) => onE (f ρ) ρ fun d _ => (match d with
    | .lst ys => if D.imms ys = true ∧ xs.length + ys.length ≤ 1000000 then .nx (ρ.set i (Sl.re ρ[i]? (.lst (xs ++ ys)))) else .bad
    | _ => .bad)
  | _ => .bad
theorem px_ext {st : Stmt} {i : Nat} {f : E} (h : PS X st (tAug i (tE G W f) rExt2)) : PS X st (tS G W (sExt i f)) := by
  refine PS.of h fun D' σ H ⟨H0, io, fp, fv, ρ, I, q⟩ => ?_
  unfold sExt at q
  split at q
  · rename_i xs hm
    obtain ⟨a, vs, fa, hv, ha, na, nd, al, ot, k⟩ := I.lst hm
    refine ⟨_, hv, ?_⟩
    refine tE.st (y := fun r => SK G W H0 io fv D' (onE r ρ _)) I q (fun e h => h) (fun h => h) fun d m q y H1 e1 v1 => ?_
    cases d with
    | lst ys =>
      replace q : SK G W H0 io fv D' (if D.imms ys = true ∧ xs.length + ys.length ≤ 1000000 then .nx (ρ.set i (Sl.re ρ[i]? (.lst (xs ++ ys)))) else .bad) := q
      by_cases c : D.imms ys = true ∧ xs.length + ys.length ≤ 1000000
      · rw [if_pos c] at q
        obtain ⟨b, zs, rfl, _, hb, r⟩ := v1.tr
        refine ⟨a, b, vs, zs, rfl, rfl, e1 a _ ha, hb, ?_, ?_⟩
        · rw [← OTs.length (f := []) ot, ← r.length]
          exact line_big c.2
        · have two : OTs G H1 (xs ++ ys) (vs ++ zs) (fa ++ []) := OTs.append (OTs.same e1 ot) (Reps.own ys zs c.1 r)
          rw [List.append_nil] at two
          obtain ⟨fp', J⟩ := k H1 _ _ _ e1 two nd na (fun b hb => .inl hb)
          have sg : σ.set i (some (.ref a)) = σ := by
            apply List.ext_getElem?
            intro j
            by_cases e : i = j
            · subst e
              rw [List.getElem?_set_self (List.getElem?_eq_some_iff.mp hv).1, hv]
            · rw [List.getElem?_set_ne e]
          show D'.nx (σ.set i (some (.ref a))) _
          rw [sg]
          exact q σ _ fp' J
      · rw [if_neg c] at q
        exact q.elim
    | _ => exact q.elim
  · exact q.elim
/-! ### written tuples -/
structure CV (G : Cts) (d : D) (u : Value) : Prop where
  at' : ∃ v, RelV v u ∧ d.imm = true ∧ ∀ H, Rep G Nav H d v
inductive CVs (G : Cts) : List D → List Value → Prop where
  | nil : CVs G [] []
  | cons {d : D} {u : Value} {ds : List D} {us : List Value} (h : CV G d u) (t : CVs G ds us) : CVs G (d :: ds) (u :: us)
theorem CV.int {i : Int} {t : Tok} : CV G (.int i) (.int i t) := ⟨.int i, ⟨t, rfl⟩, rfl, fun _ => rfl⟩
theorem CV.strL {i k : Str} {t : Tok} (e : i = k) : CV G (.str k) (.str i t) := ⟨.str i, ⟨t, rfl⟩, rfl, fun _ => by rw [e]; rfl⟩
theorem CVs.vals : ∀ {ds : List D} {us : List Value}, CVs G ds us → ∃ vs, Vals vs us ∧ D.imms ds = true ∧ ∀ H, Reps G Nav H ds vs
  | _, _, .nil => ⟨[], .nil, rfl, fun _ => rfl⟩
  | _, _, .cons h t => by
    obtain ⟨v, r, i, p⟩ := h.at'
    obtain ⟨vs, rs, is, ps⟩ := t.vals
    exact ⟨v :: vs, .cons r rs, by rw [imms_cons, i, is]; rfl, fun H => ⟨v, vs, rfl, p H, ps H⟩⟩
theorem CVs.len : ∀ {ds : List D} {us : List Value}, CVs G ds us → ds.length = us.length
  | _, _, .nil => rfl
  | _, _, .cons _ t => by rw [List.length_cons, List.length_cons, t.len]
theorem CV.tup {K : PySem.W.Frag} {cl : Nat → Addr} {a : Addr} {od : Option Addr} {its : Array Value} {n : Nat} {sl : Array (Option Value)} {ds : List D} (hl : K.lookup a = some ⟨.type "tuple", od, .seq its n, sl⟩) (hs : CVs ⟨K, cl, 0, 0⟩ ds its.toList) (hd : ds.length ≤ 1000) : CV ⟨K, cl, 0, 0⟩ (.tup ds) (.ref a) := by
  have hz : its.size ≤ sizeLine := by
    have e : ds.length = its.size := hs.len.trans Array.length_toList
    rw [← e]
    exact line_big (Nat.le_trans hd (by decide))
  obtain ⟨vs, r, i, p⟩ := hs.vals
  exact ⟨.ref a, rfl, i, fun H => ⟨a, vs, rfl, .inr ⟨_, its, n, hl, rfl, rfl, hz, r⟩, p H⟩⟩
theorem Cst.tup {mg : Str → Option Value} {x : Str} {a : Addr} {ds : List D} (h : mg x = some (.ref a)) (c : CV G (.tup ds) (.ref a)) : Cst G mg x (.tup ds) := by
  obtain ⟨v, r, i, p⟩ := c.at'
  exact ⟨_, v, h, r, i, p⟩
/-! ### t.index(text) -/
def oIndexT : D → List D → Option D := fun d ds => match d with
  | .tup xs => (match ds with
    | [.str z] => (strsOf xs).bind fun ss => (ss.idxOf? z).map fun j => .int (j : Nat)
    | _ => none)
  | _ => none
theorem opm_indexT : OpM G (fun x xs H Q => ∃ p, ∃ ys : List Str, ∃ z j, x = .ref p ∧ xs = [.str z] ∧ SqT G.K H p (ys.map V.str) ∧ ys[j]? = some z ∧ (∀ m, m < j → ys[m]? ≠ some z) ∧ Q (.int (j : Nat)) H) oIndexT := by
  intro d ds c h x vs H hx hs Q k
  unfold oIndexT at h
  split at h
  · rename_i xs
    split at h
    · rename_i z
      cases q : strsOf xs with
      | none =>
        rw [q] at h
        cases h
      | some ss =>
        rw [q] at h
        simp only [Option.bind_some] at h
        cases q2 : ss.idxOf? z with
        | none =>
          rw [q2] at h
          cases h
        | some j =>
          rw [q2] at h
          cases h
          have e1 := strsOf_some q
          subst e1
          obtain ⟨a, ws, rfl, s, r⟩ := hx
          have := reps_strs_of r
          subst this
          have hv := strOne hs
          subst hv
          obtain ⟨h1, h2, h3⟩ := List.findIdx?_eq_some_iff_getElem.mp q2
          refine ⟨a, ss, z, j, rfl, rfl, s, ?_, fun m hm e => ?_, k _ H (Same.refl H) Fresh.int⟩
          · rw [List.getElem?_eq_getElem h1, beq_iff_eq.mp h2]
          · have hm' : m < ss.length := by omega
            rw [List.getElem?_eq_getElem hm'] at e
            have := h3 m hm
            rw [Option.some.inj e] at this
            simp at this
    · cases h
  · cases h
/-- a written tuple by its name, for its methods -/
structure Tpl (G : Cts) (mg : Str → Option Value) (x : Str) (d : D) : Prop where
  at' : ∃ a o, mg x = some (.ref a) ∧ G.K.lookup a = some o ∧ o.cls = .type "tuple" ∧ o.dict = none ∧ ∀ H, Rep G Nav H d (.ref a)
theorem Tpl.of {K : PySem.W.Frag} {cl : Nat → Addr} {mg : Str → Option Value} {x : Str} {a : Addr} {its : Array Value} {n : Nat} {sl : Array (Option Value)} {ds : List D} (h : mg x = some (.ref a)) (hl : K.lookup a = some ⟨.type "tuple", none, .seq its n, sl⟩) (hs : CVs ⟨K, cl, 0, 0⟩ ds its.toList) (hd : ds.length ≤ 1000) : Tpl ⟨K, cl, 0, 0⟩ mg x (.tup ds) := by
  obtain ⟨v, r, i, p⟩ := (CV.tup hl hs hd).at'
  refine ⟨a, _, h, hl, rfl, rfl, fun H => ?_⟩
  have := p H
  cases v with
  | ref b =>
    cases r
    exact this
  | _ =>
    obtain ⟨b, vs, e, _⟩ := this
    cases e
theorem Tpl.cst {mg : Str → Option Value} {x : Str} {d : D} (t : Tpl G mg x d) (im : d.imm = true) : Cst G mg x d := by
  obtain ⟨a, o, h, _, _, _, p⟩ := t.at'
  exact ⟨_, .ref a, h, rfl, im, p⟩
def eIdxC (d : D) (g : EA) : E := fun ρ => (g ρ).bind fun b => (R.opt (oIndexT d b.1)).bind fun c => .ok (c, .fr)
theorem px_idxC {x : Str} {p apos cpos : Pos} {e : Expr} {es : List Expr} {g : EA} {d : D} (t : Tpl G X.mg x d) (hg : Gl X x) (ha : PA X (e :: es) (tA G W g)) (hK : X.K = G.K := by rfl) (hd : (x == ("__debug__" : Str)) = false := by decide)
    (hbase : attributeBase (.Name x p) "index" X.env (eval (.Name x p) X.env) = eval (.Name x p) X.env := by rfl)
    (hfew : ((backTo cpos (starEach (e :: es) X.env)).all (fun x => !x.1) && (backToKw cpos (keywordEach [] X.env)).all (fun x => x.1.isSome) && decide ((e :: es).length + ([] : List Keyword).length + (if ([] : List Keyword).isEmpty then 0 else 1) < 30)) = true := by rfl)
    (hline : (apos.endLine == cpos.line) = true := by rfl) (hs : starEach (e :: es) X.env = (false, eval e X.env) :: starEach es X.env := by rfl) (hplain : (backTo cpos (starEach es X.env)).any (·.1) = false := by rfl) :
    PE X (.Call (.Attribute (.Name x p) "index" apos) (e :: es) [] cpos) (tE G W (eIdxC d g)) := by
  obtain ⟨a, o, h1, h2, h3, h4, h5⟩ := t.at'
  refine PE.of (pe_bm PySem.F.plainAttrs_tuple PySem.F.slot_tuple_index PySem.F.type_tuple_index mt_tup_index (pe_glob (v := .ref a) hg h1 rfl hd) ha hbase hfew hline hs hplain) fun σ H Q ⟨fp, fv, ρ, I, q⟩ => ?_
  refine ⟨.inr (.inl ⟨rfl, o, by rw [hK]; exact h2, h3, h4⟩), ?_⟩
  rw [hK]
  refine tA.of_bind (y := yE G W fp σ H Q) I q (fun e h => h) (fun h => h) fun ds m q vs H1 e1 v1 => ?_
  cases z : oIndexT d ds with
  | none =>
    simp only [z] at q
    exact q.elim
  | some c =>
    simp only [z] at q
    exact opm_indexT d ds c z (.ref a) vs H1 (h5 H1) v1.tr Q fun v H' e' fr => q v H' (e1.trans e') (fr.back e1)
end
@[simp] theorem eIdxC_eq (d : D) (g : EA) (ρ : Rho) : eIdxC d g ρ = (g ρ).bind fun b => (R.opt (oIndexT d b.1)).bind fun c => .ok (c, .fr) := rfl
def Sl.ext (i : Nat) (f : E) (ρ : Rho) (s : Option Sl) : SO := match Sl.mine s with
  | some (.lst xs) => onE (f ρ) ρ fun d _ => (match d with
    | .lst ys => if D.imms ys = true ∧ xs.length + ys.length ≤ 1000000 then .nx (ρ.set i (Sl.re s (.lst (xs ++ ys)))) else .bad
    | _ => .bad)
  | _ => .bad
@[simp] theorem sExt_eq (i : Nat) (f : E) (ρ : Rho) : sExt i f ρ = Sl.ext i f ρ ρ[i]? := rfl
def extD (xs : List D) (d : D) : R (List D) := match d with
  | .lst ys => if D.imms ys = true ∧ xs.length + ys.length ≤ 1000000 then .ok (xs ++ ys) else .bad
  | _ => .bad
def SO.onl (r : R (List D)) (f : List D → SO) : SO := match r with
  | .ok xs => f xs
  | _ => .bad
@[simp] theorem onl_ok (xs : List D) (f : List D → SO) : SO.onl (.ok xs) f = f xs := rfl
@[simp] theorem ext_own (i : Nat) (f : E) (ρ : Rho) (xs : List D) : Sl.ext i f ρ (some (.own (.lst xs))) = onE (f ρ) ρ fun d _ => SO.onl (extD xs d) fun zs => .nx (ρ.set i (.own (.lst zs))) := by
  show (onE (f ρ) ρ fun d _ => (match d with
    | .lst ys => if D.imms ys = true ∧ xs.length + ys.length ≤ 1000000 then .nx (ρ.set i (Sl.re (some (.own (.lst xs))) (.lst (xs ++ ys)))) else .bad
    | _ => .bad)) = _
  congr 1
  funext d m
  cases d with
  | lst ys =>
    show (if D.imms ys = true ∧ xs.length + ys.length ≤ 1000000 then _ else _) = SO.onl (if D.imms ys = true ∧ xs.length + ys.length ≤ 1000000 then _ else _) _
    split <;> rfl
  | _ => rfl
@[simp] theorem extD_lst (xs ys : List D) : extD xs (.lst ys) = if D.imms ys = true ∧ xs.length + ys.length ≤ 1000000 then .ok (xs ++ ys) else .bad := rfl
@[simp] theorem oIndexT_tup (xs : List D) (z : Str) : oIndexT (.tup xs) [.str z] = (strsOf xs).bind fun ss => (ss.idxOf? z).map fun j => .int (j : Nat) := rfl
end Dn
set_option Elab.async false
set_option linter.all false
set_option maxRecDepth 100000
set_option maxHeartbeats 2000000
/-! Dn44: for .. in xs, xs a slot that owns its list (which is read only from then on). -/
namespace Dn
open PySem L2
section
variable {X : Cx} {G : Cts} {W : WX}
def sForV (i : Nat) (st : Tg) (body : S) : S := fun ρ => match ρ[i]? with
  | some (.own (.lst xs)) => if D.imms xs = true then forL st body xs (ρ.set i (.shr (.lst xs))) else .bad
  | some (.io (.lst xs)) => if D.imms xs = true then forL st body xs (ρ.set i (.shr (.lst xs))) else .bad
  | _ => sFor (itSeq (eVar i)) st body ρ
theorem px_forV {i : Nat} {x : Str} {p pos : Pos} {tg : Expr} {body : List Stmt} {st : Tg} {f : S} (hp : PassesOwn (model X.prog X.w) X.A X.env X.xe) (hc : X.calm = true) (hv : PE X (.Name x p) (tVar i)) (hg : PG X tg (gS G st)) (hb : PSs X body (tS G W f)) (hK : X.K = G.K := by rfl)
    (hs : ∀ y, foldedSetIterable (.Name x p) X.env y = pure y := by intro _; rfl) :
    PS X (.For tg (.Name x p) body [] pos) (tS G W (sForV i st f)) := by
  have key : PS X (.For tg (.Name x p) body [] pos) (fun D1 σ H => ∃ H0 io fp fv ρ xs, FSR G H0 io fp fv σ H ρ ∧ Sl.mine ρ[i]? = some (.lst xs) ∧ D.imms xs = true ∧ SK G W H0 io fv D1 (forL st f xs (ρ.set i (.shr (.lst xs))))) := by
    refine PS.of (ps_for hp hc (pi_list hv) hg hb hs) fun D' σ H ⟨H0, io, fp, fv, ρ, xs, I, hmine, im, q⟩ => ?_
    obtain ⟨a, vs, f', hσ, ha, na, nd, al, ot, _⟩ := I.lst hmine
    refine ⟨_, hσ, a, rfl, ⟨vs, hK ▸ SqL.of ha⟩, ?_⟩
    have hi : i < ρ.length := by
      cases e : ρ[i]? with
      | none =>
        rw [e] at hmine
        cases hmine
      | some s => exact (List.getElem?_eq_some_iff.mp e).1
    have hain : a ∈ fp i := by
      obtain ⟨v, hv', a', vs', f2, rfl, hf, ha', ot'⟩ := I.l.mine hmine
      rw [hσ] at hv'
      cases hv'
      rw [hf]
      exact List.mem_cons_self
    have nown : ¬ Own (upF fp i []) a := fun ⟨j, hj⟩ => by
      by_cases z : j = i
      · subst z
        rw [upF_same] at hj
        cases hj
      · rw [upF_ne z] at hj
        exact I.l.dj j i z a hj hain
    have r0 : Reps G Nav H xs vs := OTs.rl ot
    have r1 : OTs G H xs vs [] := Reps.own xs _ im r0
    have J : FSR G H0 io (upF fp i []) fv σ H (ρ.set i (.shr (.lst xs))) :=
      I.mut hi (fun b o nb hb => hb) Tk.refl List.nodup_nil (fun _ z => by cases z) (fun _ z => by cases z) ⟨_, hσ, a, vs, rfl, nown, ha, OTs.rep xs _ [] (fun _ z => by cases z) r1⟩
    have rs : Reps G (Own (upF fp i [])) H xs vs := OTs.rep xs _ [] (fun _ z => by cases z) r1
    refine for_wk J (Same.refl _) ?_ q
    rw [hK]
    exact its_ok (pr := fun H a vs => SqL G.K H a vs) (a := a) (vs := vs) (fun i H x h hx => ⟨vs, x, h, hx⟩) (fun i H x H' y => ⟨y.1, fun h => y.2 vs h⟩) (fun i H h hl => ⟨vs, h, hl⟩) (fun H k t => SqL.of (k a _ nown ha)) rs
  refine PS.of (PS.or key (px_for hp hc (pi_ofSeq (px_var hv) hK) hg hb hs)) fun D' σ H ⟨H0, io, fp, fv, ρ, I, q⟩ => ?_
  unfold sForV at q
  have go : ∀ {xs : List D}, Sl.mine ρ[i]? = some (.lst xs) → SK G W H0 io fv D' (if D.imms xs = true then forL st f xs (ρ.set i (.shr (.lst xs))) else .bad) → ∃ H0 io fp fv ρ xs, FSR G H0 io fp fv σ H ρ ∧ Sl.mine ρ[i]? = some (.lst xs) ∧ D.imms xs = true ∧ SK G W H0 io fv D' (forL st f xs (ρ.set i (.shr (.lst xs)))) := fun {xs} h q => by
    by_cases im : D.imms xs = true
    · rw [if_pos im] at q
      exact ⟨H0, io, fp, fv, ρ, xs, I, h, im, q⟩
    · rw [if_neg im] at q
      exact q.elim
  split at q
  · rename_i h
    exact .inl (go (by rw [h]; rfl) q)
  · rename_i h
    exact .inl (go (by rw [h]; rfl) q)
  · exact .inr ⟨H0, io, fp, fv, ρ, I, q⟩
variable {H0 H : Hp} {io : Addr → Prop} {fp : Nat → List Addr} {fv : Nat → Option V} {σ : L2.St} {ρ : Rho} in
/-- a slot's own data may be looked on as shared from any time on -/
theorem FSR.give (I : FSR G H0 io fp fv σ H ρ) {i : Nat} {d : D} (h : Sl.mine ρ[i]? = some d) : FSR G H0 io (upF fp i []) fv σ H (ρ.set i (.shr d)) := by
  obtain ⟨v, hv, ot⟩ := I.l.mine h
  have hi : i < ρ.length := by
    cases e : ρ[i]? with
    | none =>
      rw [e] at h
      cases h
    | some s => exact (List.getElem?_eq_some_iff.mp e).1
  refine I.mut hi (fun b o nb hb => hb) Tk.refl List.nodup_nil (fun _ z => by cases z) (fun _ z => by cases z) ⟨v, hv, OT.rep d v (fp i) (fun a ha ⟨j, hj⟩ => ?_) ot⟩
  by_cases z : j = i
  · subst z
    rw [upF_same] at hj
    cases hj
  · rw [upF_ne z] at hj
    exact I.l.dj j i z a hj ha
def Sl.give (i : Nat) (ρ : Rho) (s : Option Sl) : Rho := match Sl.mine s with
  | some d => ρ.set i (.shr d)
  | none => ρ
def sGive (i : Nat) (f : S) : S := fun ρ => f (Sl.give i ρ ρ[i]?)
theorem px_give {i : Nat} {st : Stmt} {f : S} (h : PS X st (tS G W f)) : PS X st (tS G W (sGive i f)) := by
  refine PS.of h fun D' σ H ⟨H0, io, fp, fv, ρ, I, q⟩ => ?_
  unfold sGive Sl.give at q
  split at q
  · rename_i d hd
    exact ⟨H0, io, _, fv, _, I.give hd, q⟩
  · exact ⟨H0, io, fp, fv, ρ, I, q⟩
end
@[simp] theorem sGive_eq (i : Nat) (f : S) (ρ : Rho) : sGive i f ρ = f (Sl.give i ρ ρ[i]?) := rfl
@[simp] theorem give_own (i : Nat) (ρ : Rho) (d : D) : Sl.give i ρ (some (.own d)) = ρ.set i (.shr d) := rfl
@[simp] theorem give_io (i : Nat) (ρ : Rho) (d : D) : Sl.give i ρ (some (.io d)) = ρ.set i (.shr d) := rfl
@[simp] theorem give_shr (i : Nat) (ρ : Rho) (d : D) : Sl.give i ρ (some (.shr d)) = ρ := rfl
@[simp] theorem give_nil (i : Nat) (ρ : Rho) : Sl.give i ρ (some .nil) = ρ := rfl
def Sl.forv (i : Nat) (st : Tg) (body : S) (ρ : Rho) (s : Option Sl) : SO := match s with
  | some (.own (.lst xs)) => if D.imms xs = true then forL st body xs (ρ.set i (.shr (.lst xs))) else .bad
  | some (.io (.lst xs)) => if D.imms xs = true then forL st body xs (ρ.set i (.shr (.lst xs))) else .bad
  | _ => sFor (itSeq (eVar i)) st body ρ
@[simp] theorem sForV_eq (i : Nat) (st : Tg) (body : S) (ρ : Rho) : sForV i st body ρ = Sl.forv i st body ρ ρ[i]? := rfl
@[simp] theorem forv_own (i : Nat) (st : Tg) (body : S) (ρ : Rho) (xs : List D) : Sl.forv i st body ρ (some (.own (.lst xs))) = if D.imms xs = true then forL st body xs (ρ.set i (.shr (.lst xs))) else .bad := rfl
@[simp] theorem forv_io (i : Nat) (st : Tg) (body : S) (ρ : Rho) (xs : List D) : Sl.forv i st body ρ (some (.io (.lst xs))) = if D.imms xs = true then forL st body xs (ρ.set i (.shr (.lst xs))) else .bad := rfl
@[simp] theorem forv_shr (i : Nat) (st : Tg) (body : S) (ρ : Rho) (d : D) : Sl.forv i st body ρ (some (.shr d)) = sFor (itSeq (eVar i)) st body ρ := rfl
@[simp] theorem forv_tup (i : Nat) (st : Tg) (body : S) (ρ : Rho) (d : List D) : Sl.forv i st body ρ (some (.own (.tup d))) = sFor (itSeq (eVar i)) st body ρ := rfl
@[simp] theorem forv_str (i : Nat) (st : Tg) (body : S) (ρ : Rho) (d : Str) : Sl.forv i st body ρ (some (.own (.str d))) = sFor (itSeq (eVar i)) st body ρ := rfl
end Dn
set_option Elab.async false
set_option linter.all false
set_option maxRecDepth 100000
set_option maxHeartbeats 2000000
/-! Dn45: range with a step; xs.pop(i) as a statement. -/
namespace Dn
open PySem L2
/-- how many numbers from i below j by steps of c -/
def stpN (i j c : Int) : Nat := if i < j then ((j - i - 1) / c + 1).toNat else 0
def stpD (i c : Int) (n : Nat) : List D := (List.range n).map fun k => .int (i + (k : Nat) * c)
def rng3 : List D → Option (List D) := fun ds => match ds with
  | [.int i, .int j, .int c] => if -1000000000 ≤ i ∧ i ≤ 1000000000 ∧ -1000000000 ≤ j ∧ j ≤ 1000000000 ∧ 0 < c ∧ c ≤ 1000000000 then some (stpD i c (stpN i j c)) else none
  | _ => none
theorem rng3_some {ds xs : List D} (h : rng3 ds = some xs) : ∃ i j c, ds = [.int i, .int j, .int c] ∧ (-1000000000 ≤ i ∧ i ≤ 1000000000 ∧ -1000000000 ≤ j ∧ j ≤ 1000000000 ∧ 0 < c ∧ c ≤ 1000000000) ∧ xs = stpD i c (stpN i j c) := by
  unfold rng3 at h
  split at h
  · rename_i i j c
    split at h
    · rename_i hb
      cases h
      exact ⟨i, j, c, rfl, hb, rfl⟩
    · cases h
  · cases h
theorem rgC_of {i j c : Int} (h : -1000000000 ≤ i ∧ i ≤ 1000000000 ∧ -1000000000 ≤ j ∧ j ≤ 1000000000 ∧ 0 < c ∧ c ≤ 1000000000) : L2.RgC i j c (stpN i j c) := by
  obtain ⟨a1, a2, a3, a4, a5, a6⟩ := h
  have hs : Builtin.Range.rangeSize i j c = (stpN i j c : Int) ∧ 0 ≤ Builtin.Range.rangeSize i j c ∧ Builtin.Range.rangeSize i j c ≤ 2000000001 := by
    unfold Builtin.Range.rangeSize stpN
    rw [if_pos a5]
    split
    · have h0 : 0 ≤ (j - i - 1) / c := Int.ediv_nonneg (by omega) (by omega)
      have h1 : (j - i - 1) / c ≤ j - i - 1 := Int.ediv_le_self _ (by omega)
      omega
    · exact ⟨rfl, Int.le_refl _, by decide⟩
  refine ⟨by omega, by omega, ?_, hs.1⟩
  unfold Builtin.Range.small
  simp only [Builtin.Range.rangeFitsLong, Bool.and_eq_true, Bool.or_eq_true, decide_eq_true_eq, beq_iff_eq]
  have := hs.2
  rw [if_pos a5]
  simp only [Bool.and_eq_true, decide_eq_true_eq]
  refine ⟨⟨⟨⟨?_, ?_⟩, ?_⟩, ?_⟩, .inr ?_⟩ <;> omega
section
variable {X : Cx} {G : Cts} {W : WX} {tg : Expr}
theorem stpD_len (i c : Int) (n : Nat) : (stpD i c n).length = n := by unfold stpD; rw [List.length_map, List.length_range]
theorem wk_stp {av : Addr → Prop} {H1 : Hp} {lo c : Int} {n : Nat} : Wk G av (Itc lo c n) H1 (stpD lo c n) := by
  intro H a t i
  have hl := stpD_len lo c n
  refine ⟨fun d hd => ?_, fun h => ?_⟩
  · have hi : i < n := by rw [← hl]; exact (List.getElem?_eq_some_iff.mp hd).1
    unfold stpD at hd
    rw [List.getElem?_map, List.getElem?_range hi] at hd
    cases hd
    exact ⟨hi, fun x H' ⟨e1, e2⟩ => ⟨e1 ▸ Same.refl H, fun av' _ => e2⟩⟩
  · rw [hl] at h
    exact Nat.le_of_eq h
theorem three_of {av : Addr → Prop} {H : Hp} {a b c : D} {vs : List V} (h : Reps G av H [a, b, c] vs) : ∃ x y z, vs = [x, y, z] ∧ Rep G av H a x ∧ Rep G av H b y ∧ Rep G av H c z := by
  obtain ⟨x, r, e, h1, y, r2, e2, h2, z, r3, e3, h3, e4⟩ := h
  subst e e2 e3 e4
  exact ⟨x, y, z, rfl, h1, h2, h3⟩
theorem pi_ofRng3 {a b c : Expr} {p pos : Pos} {g : EA} (hg : Gl X "range") (hm : X.mg "range" = none) (ha : PA X [a, b, c] (tA G W g)) (hs : starEach [a, b, c] X.env = (false, eval a X.env) :: starEach [b, c] X.env := by rfl) (hpl : (backTo pos (starEach [b, c] X.env)).any (·.1) = false := by rfl) :
    PI X tg (.Call (.Name "range" p) [a, b, c] [] pos) (tI G W (itBy rng3 g)) := by
  refine PI.of (pi_range3 hg hm ha hs hpl) fun σ H Q ⟨fp, fv, ρ, I, q⟩ => tA.it I q fun ds xs z m vs H1 e1 v1 k => ?_
  obtain ⟨i, j, c, rfl, hb, rfl⟩ := rng3_some z
  obtain ⟨v, u, w, rfl, h, h2, h3⟩ := three_of v1.tr
  obtain rfl : v = .int i := h
  obtain rfl : u = .int j := h2
  obtain rfl : w = .int c := h3
  exact ⟨i, j, c, _, rfl, rgC_of hb, k _ wk_stp⟩
/-! ### xs.pop(i), thrown away -/
def sPopAt (i : Nat) (kf : E) : S := fun ρ => match Sl.mine ρ[i]? with
  | some (.lst xs) => if D.imms xs = true then onE (kf ρ) ρ fun k _ => (match k with
    | .int j => if 0 ≤ j ∧ j < xs.length ∧ xs.length ≤ 1000000 then .nx (ρ.set i (Sl.re ρ[i]? (.lst (xs.eraseIdx j.toNat)))) else .bad
    | _ => .bad) else .bad
  | _ => .bad
theorem Reps.eraseIdx {av : Addr → Prop} {H : Hp} : ∀ {ds : List D} {vs : List V} (n : Nat), Reps G av H ds vs → Reps G av H (ds.eraseIdx n) (vs.eraseIdx n)
  | [], _, n, h => by
    obtain rfl : _ = [] := h
    exact rfl
  | d :: ds, _, 0, ⟨v, r, e, _, h⟩ => by
    subst e
    exact h
  | d :: ds, _, n + 1, ⟨v, r, e, h1, h2⟩ => by
    subst e
    exact ⟨v, r.eraseIdx n, rfl, h1, Reps.eraseIdx n h2⟩
theorem imms_eraseIdx {xs : List D} (h : D.imms xs = true) (n : Nat) : D.imms (xs.eraseIdx n) = true := imms_mem fun x hx => of_imms h x (List.mem_of_mem_eraseIdx hx)
theorem px_popAt {i : Nat} {kf : E} {st : Stmt} (h : PS X st (tDrop (tBM X.K "list" rPopAt (tVar i) (tA G W (eCons kf eNil))))) : PS X st (tS G W (sPopAt i kf)) := by
  refine PS.of h fun D' σ H ⟨H0, io, fp, fv, ρ, I, q⟩ => ?_
  unfold sPopAt at q
  split at q
  · rename_i xs z
    by_cases im : D.imms xs = true
    · rw [if_pos im] at q
      obtain ⟨a, vs, hv, ha, r, k⟩ := I.lstF z
      refine ⟨_, hv, .inl ⟨rfl, vs, SqL.of ha⟩, ?_⟩
      show tA G W (eCons kf eNil) σ H _
      refine ⟨fp, fv, ρ, I.l, ?_⟩
      unfold eCons eNil
      cases w : kf ρ with
      | ex e =>
        rw [w] at q
        exact fun H' e' => q σ H' fp (I.same e')
      | bad =>
        rw [w] at q
        exact q.elim
      | ok dm =>
        obtain ⟨d, m⟩ := dm
        rw [w] at q
        cases d with
        | int j =>
          by_cases hj : 0 ≤ j ∧ j < xs.length ∧ xs.length ≤ 1000000
          · replace q : SK G W H0 io fv D' (if 0 ≤ j ∧ j < xs.length ∧ xs.length ≤ 1000000 then .nx (ρ.set i (Sl.re ρ[i]? (.lst (xs.eraseIdx j.toNat)))) else .bad) := q
            rw [if_pos hj] at q
            show ∀ v H', Same H H' → VsOk G fp H H' _ [.int j] v → _
            intro ws H1 e1 v1
            obtain ⟨v, rfl, hw⟩ := one_of v1.tr
            obtain rfl : v = .int j := hw
            have hl := r.length
            have hn : j.toNat < vs.length := by omega
            refine ⟨a, vs, j, j.toNat, vs[j.toNat], rfl, rfl, e1 a _ ha, by omega, by omega, ?_, List.getElem?_eq_getElem hn, ?_⟩
            · unfold seqIndex?
              have h0 : ¬ j < 0 := by omega
              simp only [h0, if_false]
              rw [if_pos (by simp; omega)]
            · obtain ⟨fp', J⟩ := k H1 (xs.eraseIdx j.toNat) (vs.eraseIdx j.toNat) e1 (imms_eraseIdx im _) (Reps.eraseIdx _ (r.same e1))
              exact q σ _ fp' J
          · replace q : SK G W H0 io fv D' (if 0 ≤ j ∧ j < xs.length ∧ xs.length ≤ 1000000 then .nx (ρ.set i (Sl.re ρ[i]? (.lst (xs.eraseIdx j.toNat)))) else .bad) := q
            rw [if_neg hj] at q
            exact q.elim
        | _ => exact q.elim
    · rw [if_neg im] at q
      exact q.elim
  · exact q.elim
end
@[simp] theorem rng3_int (i j c : Int) : rng3 [.int i, .int j, .int c] = if -1000000000 ≤ i ∧ i ≤ 1000000000 ∧ -1000000000 ≤ j ∧ j ≤ 1000000000 ∧ 0 < c ∧ c ≤ 1000000000 then some (stpD i c (stpN i j c)) else none := rfl
def SO.popa (i : Nat) (ρ : Rho) (s : Option Sl) (xs : List D) (k : D) : SO := match k with
  | .int j => if 0 ≤ j ∧ j < xs.length ∧ xs.length ≤ 1000000 then .nx (ρ.set i (Sl.re s (.lst (xs.eraseIdx j.toNat)))) else .bad
  | _ => .bad
def Sl.popa (i : Nat) (kf : E) (ρ : Rho) (s : Option Sl) : SO := match Sl.mine s with
  | some (.lst xs) => if D.imms xs = true then onE (kf ρ) ρ fun k _ => SO.popa i ρ s xs k else .bad
  | _ => .bad
@[simp] theorem sPopAt_eq (i : Nat) (kf : E) (ρ : Rho) : sPopAt i kf ρ = Sl.popa i kf ρ ρ[i]? := rfl
@[simp] theorem popa_own (i : Nat) (kf : E) (ρ : Rho) (xs : List D) : Sl.popa i kf ρ (some (.own (.lst xs))) = if D.imms xs = true then onE (kf ρ) ρ fun k _ => SO.popa i ρ (some (.own (.lst xs))) xs k else .bad := rfl
@[simp] theorem popa_int (i : Nat) (ρ : Rho) (xs ys : List D) (j : Int) : SO.popa i ρ (some (.own (.lst ys))) xs (.int j) = if 0 ≤ j ∧ j < xs.length ∧ xs.length ≤ 1000000 then .nx (ρ.set i (.own (.lst (xs.eraseIdx j.toNat)))) else .bad := rfl
end Dn
set_option Elab.async false
set_option linter.all false
set_option maxRecDepth 100000
set_option maxHeartbeats 2000000
/-! Dn46: defs to which new data is handed over: the first m arguments are read only, the others are the def's own. -/
namespace Dn
open PySem L2
/-- what a body makes of its arguments -/
def fnG (m n N : Nat) (body : S) (ds : List D) : R D := if ds.length = n then (match body ((ds.take m).map Sl.shr ++ (ds.drop m).map Sl.own ++ List.replicate (N - n) Sl.nil) with
  | .rt d _ => .ok d
  | .nx _ => .ok .non
  | .ex e _ => .ex e
  | _ => .bad) else .bad
/-- the promise -/
def SpG (G : Cts) (m n : Nat) (F : List D → R D) : Sp := fun vs H Q E' => vs.length = n ∧ ∃ ds1 ds2 vs1 vs2 f, vs = vs1 ++ vs2 ∧ ds1.length = m ∧ Reps G (· ∈ f) H ds1 vs1 ∧ OTs G H ds2 vs2 f ∧ f.Nodup ∧ match F (ds1 ++ ds2) with
  | .ok d => ∀ v H', (∀ a o, a ∉ f → H a = some o → H' a = some o) → (∃ f', OT G H' d v f' ∧ f'.Nodup ∧ ∀ a ∈ f', a ∈ f ∨ H a = none) → Q v H'
  | .ex e => ∀ H', (∀ a o, a ∉ f → H a = some o → H' a = some o) → E' (.ref (G.cls e)) none H'
  | .bad => False
section
variable {G : Cts} {H : Hp}
/-- the parts' own addresses -/
theorem OTs.split : ∀ {ds : List D} {vs : List V} {f : List Addr}, OTs G H ds vs f → f.Nodup → ∃ fl : Nat → List Addr, (∀ i, (fl i).Nodup) ∧ (∀ i j, i ≠ j → ∀ a ∈ fl i, a ∉ fl j) ∧ (∀ i, ∀ a ∈ fl i, a ∈ f) ∧
    ∀ (i : Nat) d, ds[i]? = some d → ∃ v, vs[i]? = some v ∧ OT G H d v (fl i)
  | [], _, _, _, _ => ⟨fun _ => [], fun _ => List.nodup_nil, fun _ _ _ a z => absurd z List.not_mem_nil, fun _ a z => absurd z List.not_mem_nil, fun i d h => by simp at h⟩
  | d :: ds, _, _, ⟨v, r, f, g, e, ef, h1, h2⟩, nd => by
    subst e ef
    obtain ⟨n1, n2, n3⟩ := List.nodup_append.mp nd
    obtain ⟨fl, a1, a2, a3, a4⟩ := OTs.split h2 n2
    refine ⟨fun i => match i with | 0 => f | i + 1 => fl i, fun i => ?_, fun i j hij a ha hb => ?_, fun i a ha => ?_, fun i d' hd => ?_⟩
    · cases i with
      | zero => exact n1
      | succ i => exact a1 i
    · cases i with
      | zero =>
        cases j with
        | zero => exact hij rfl
        | succ j => exact n3 a ha a (a3 j a hb) rfl
      | succ i =>
        cases j with
        | zero => exact n3 a hb a (a3 i a ha) rfl
        | succ j => exact a2 i j (fun z => hij (by rw [z])) a ha hb
    · cases i with
      | zero => exact List.mem_append_left _ ha
      | succ i => exact List.mem_append_right _ (a3 i a ha)
    · cases i with
      | zero =>
        cases hd
        exact ⟨v, rfl, h1⟩
      | succ i => exact a4 i d' hd
theorem LSR.initG {ds1 ds2 : List D} {vs1 vs2 : List V} {f : List Addr} {N : List Str} (h1 : Reps G (· ∈ f) H ds1 vs1) (h2 : OTs G H ds2 vs2 f) (nd : f.Nodup) (hN : ds1.length + ds2.length ≤ N.length) :
    ∃ fp, LSR G fp (fun _ => none) (L2.start N (vs1 ++ vs2)) H (ds1.map Sl.shr ++ ds2.map Sl.own ++ List.replicate (N.length - (ds1.length + ds2.length)) Sl.nil) ∧ ∀ i, ∀ a ∈ fp i, a ∈ f := by
  have l1 := h1.length
  have l2 := OTs.length (f := f) h2
  obtain ⟨fl, a1, a2, a3, a4⟩ := h2.split nd
  have sub : ∀ i, ∀ a ∈ (if i < ds1.length then [] else fl (i - ds1.length)), a ∈ f := fun i a ha => by
    split at ha
    · exact absurd ha List.not_mem_nil
    · exact a3 _ a ha
  refine ⟨fun i => if i < ds1.length then [] else fl (i - ds1.length), ⟨?_, fun i => ?_, fun i j hij a ha hb => ?_, fun i a ha => ?_, fun i s hs => ?_⟩, sub⟩
  · simp only [L2.start, List.length_append, List.length_map, List.length_replicate]
    omega
  · show (if i < ds1.length then [] else fl (i - ds1.length)).Nodup
    split
    · exact List.nodup_nil
    · exact a1 _
  · replace ha : a ∈ (if i < ds1.length then [] else fl (i - ds1.length)) := ha
    replace hb : a ∈ (if j < ds1.length then [] else fl (j - ds1.length)) := hb
    split at ha
    · exact absurd ha List.not_mem_nil
    · split at hb
      · exact absurd hb List.not_mem_nil
      · exact a2 _ _ (by omega) a ha hb
  · obtain ⟨o, q, _⟩ := OTs.there ds2 vs2 f h2 a (sub i a ha)
    exact ⟨o, q⟩
  · have stl : ∀ v, (vs1 ++ vs2)[i]? = some v → (L2.start N (vs1 ++ vs2))[i]? = some (some v) := fun v hv => by
      have hi : i < (vs1 ++ vs2).length := (List.getElem?_eq_some_iff.mp hv).1
      unfold L2.start
      rw [List.getElem?_append_left (by rw [List.length_map]; exact hi), List.getElem?_map, hv]
      rfl
    by_cases hi : i < ds1.length
    · rw [List.append_assoc, List.getElem?_append_left (by rw [List.length_map]; exact hi), List.getElem?_map] at hs
      obtain ⟨d, hd⟩ : ∃ d, ds1[i]? = some d := ⟨ds1[i], List.getElem?_eq_getElem hi⟩
      rw [hd] at hs
      cases hs
      obtain ⟨v, hv, r⟩ := h1.get hd
      refine ⟨v, stl v (by rw [List.getElem?_append_left (by omega)]; exact hv), Rep.weak (fun a _ ⟨k, z⟩ => sub k a z) d v r⟩
    · by_cases hi2 : i < ds1.length + ds2.length
      · rw [List.getElem?_append_left (by rw [List.length_append, List.length_map, List.length_map]; exact hi2), List.getElem?_append_right (by rw [List.length_map]; omega), List.length_map, List.getElem?_map] at hs
        obtain ⟨d, hd⟩ : ∃ d, ds2[i - ds1.length]? = some d := ⟨ds2[i - ds1.length]'(by omega), List.getElem?_eq_getElem _⟩
        rw [hd] at hs
        cases hs
        obtain ⟨v, hv, r⟩ := a4 _ d hd
        refine ⟨v, stl v (by rw [List.getElem?_append_right (by omega), ← l1]; exact hv), ?_⟩
        show OT G H d v (if i < ds1.length then [] else fl (i - ds1.length))
        rw [if_neg hi]
        exact r
      · rw [List.getElem?_append_right (by rw [List.length_append, List.length_map, List.length_map]; omega)] at hs
        have hm : s ∈ List.replicate (N.length - (ds1.length + ds2.length)) Sl.nil := List.mem_of_getElem? hs
        rw [List.mem_replicate] at hm
        obtain ⟨_, rfl⟩ := hm
        exact trivial
end
section
variable {P : Program} {w : World} {K : PySem.W.Frag} {mg : Str → Option Value} {base : Heap} {G : Cts}
theorem fn_denG {x qual : Str} {st : Stmt} {f : Addr} {fd : FuncData} {N ps : List Str} {k m : Nat} {body : S} (F : Fun G.K x qual st f fd) (sc : FnScope N ps (defScope st)) (hN : ps.length ≤ N.length)
    (hbody : ∀ (cdv : Value) (A : Around) (outer : List Env) (s : Shared) (H : Hp) (E' : XK), Room k (A.deeper (PyProof.Rows.envOfC qual (defScope st) s.heap.objs.size f cdv)) →
      Takes (cxOf (L2.CX P w) P w G.K mg base N qual (defScope st) f cdv A outer s H E') (fun cls d _ H => E' cls d H) →
      (let X := cxOf (L2.CX P w) P w G.K mg base N qual (defScope st) f cdv A outer s H E'; PassesOwn (model X.prog X.w) X.A X.env X.xe) →
      PSs (cxOf (L2.CX P w) P w G.K mg base N qual (defScope st) f cdv A outer s H E') (defBody st) (tS G (fun cls d _ H => E' cls d H) body)) :
    FnOk P w G.K mg base (L2.CX P w) (k + 1) f fd ps (SpG G m ps.length (fnG m ps.length N.length body)) := by
  refine F.okX sc (fun vs H Q E' h => h.1) fun cdv A outer s H vs Q E' hr h => ⟨_, hbody cdv A outer s H E' hr (takes_of rfl rfl rfl rfl) (passes_of rfl), ?_⟩
  obtain ⟨hl, ds1, ds2, vs1, vs2, f, rfl, hm, r1, r2, nd, q⟩ := h
  have l1 := r1.length
  have l2 := OTs.length (f := f) r2
  rw [List.length_append] at hl
  have hd : (ds1 ++ ds2).length = ps.length := by rw [List.length_append]; omega
  obtain ⟨fp, I, src⟩ := LSR.initG (N := N) r1 r2 nd (by rw [List.length_append] at hd; omega)
  refine ⟨H, (· ∈ f), fp, fun _ => none, _, ⟨I, fun _ _ _ z => z, Tk.refl, fun i a z => .inl (src i a z)⟩, ?_⟩
  unfold fnG at q
  rw [if_pos hd] at q
  have t1 : (ds1 ++ ds2).take m = ds1 := by rw [← hm]; exact List.take_left
  have t2 : (ds1 ++ ds2).drop m = ds2 := by rw [← hm]; exact List.drop_left
  rw [t1, t2] at q
  have e : ps.length = ds1.length + ds2.length := by rw [← hd, List.length_append]
  rw [e] at q
  cases z : body (ds1.map Sl.shr ++ ds2.map Sl.own ++ List.replicate (N.length - (ds1.length + ds2.length)) Sl.nil) with
  | nx ρ =>
    rw [z] at q
    exact fun σ' H' fp' J => q .non H' (fun a o n h => J.keep a o n h) ⟨[], ⟨rfl, rfl⟩, List.nodup_nil, fun _ z => by cases z⟩
  | rt d ρ =>
    rw [z] at q
    rintro v H' ⟨σ', fp', f', J, o, n, s'⟩
    exact q v H' (fun a o n h => J.keep a o n h) ⟨f', o, n, fun a ha => (s' a ha).1⟩
  | ex e ρ =>
    rw [z] at q
    exact fun σ' H' fp' J => q H' (fun a o n h => J.keep a o n h)
  | ct ρ =>
    rw [z] at q
    exact q.elim
  | bk ρ =>
    rw [z] at q
    exact q.elim
  | bad =>
    rw [z] at q
    exact q.elim
/-- such a def as its callers see it -/
structure CalG (G : Cts) (P : Program) (w : World) (mg : Str → Option Value) (base : Heap) (k : Nat) (x : Str) (ps : List Str) (m : Nat) (F : List D → R D) : Prop where
  len : ∀ ds : List D, ds.length ≠ ps.length → F ds = .bad
  at' : ∃ f fd, FnOk P w G.K mg base (L2.CX P w) k f fd ps (SpG G m ps.length F) ∧ mg x = some (.ref f) ∧ PySem.W.keepIn G.K (.ref f) = true ∧ Binds G.K fd ps [] ∧ ∃ oc od sl, G.K.lookup f = some ⟨oc, od, .func fd, sl⟩
end
section
variable {X : Cx} {G : Cts} {W : WX}
/-- two rows of arguments, one behind the other -/
def tA2 (G : Cts) (W : WX) (g1 g2 : EA) : TA := fun σ H Q => ∃ fp fv ρ, LSR G fp fv σ H ρ ∧ match (g1 ρ).bind fun a => (g2 ρ).bind fun b => .ok (a, b) with
  | .ok (a, b) => ∀ vs1 vs2 H1 H2, Same H H1 → Same H1 H2 → VsOk G fp H H1 a.2 a.1 vs1 → VsOk G fp H1 H2 b.2 b.1 vs2 → Q (vs1 ++ vs2) H2
  | .ex e => ∀ H', Same H H' → W (.ref (G.cls e)) none σ H'
  | .bad => False
theorem pa2_nil {es : List Expr} {g : EA} (h : PA X es (tA G W g)) : PA X es (tA2 G W eNil g) := by
  refine PA.of h fun σ H Q ⟨fp, fv, ρ, I, q⟩ => ⟨fp, fv, ρ, I, ?_⟩
  unfold eNil at q
  cases z : g ρ with
  | ok b =>
    rw [z] at q
    exact fun v H' e' v' => q [] v H H' (Same.refl H) e' ⟨[], ⟨rfl, rfl⟩, List.nodup_nil, fun _ z => by cases z⟩ v'
  | ex e =>
    rw [z] at q
    exact q
  | bad =>
    rw [z] at q
    exact q
theorem pa2_cons {e : Expr} {es : List Expr} {f : E} {g1 g2 : EA} (h : PE X e (tE G W f)) (hs : PA X es (tA2 G W g1 g2)) (hst : starEach (e :: es) X.env = (false, eval e X.env) :: starEach es X.env := by rfl) : PA X (e :: es) (tA2 G W (eCons f g1) g2) := by
  refine PA.of (pa_cons h hs hst) fun σ H Q ⟨fp, fv, ρ, I, q⟩ => ?_
  unfold eCons at q
  refine tE.go I (fun e h H' e' => ?_) (fun h => ?_) fun d m h v H1 e1 v1 => ?_
  · rw [h] at q
    exact q H' e'
  · rw [h] at q
    exact q
  · rw [h] at q
    have I1 := I.same e1
    refine ⟨fp, fv, ρ, I1, ?_⟩
    cases z : g1 ρ with
    | ex e =>
      simp only [z, R.bind] at q ⊢
      exact fun H' e' => q H' (e1.trans e')
    | bad =>
      simp only [z, R.bind] at q
    | ok a =>
      simp only [z, R.bind] at q ⊢
      cases z2 : g2 ρ with
      | ex e =>
        simp only [z2] at q ⊢
        exact fun H' e' => q H' (e1.trans e')
      | bad =>
        simp only [z2] at q
      | ok b =>
        simp only [z2] at q ⊢
        intro vs1 vs2 H2 H3 e2 e3 w1 w2
        exact q (v :: vs1) vs2 H2 H3 (e1.trans e2) e3 (VsOk.cons I e1 e2 v1.nrm w1) w2
def eCallG (F : List D → R D) (g1 g2 : EA) : E := fun ρ => (g1 ρ).bind fun a => (g2 ρ).bind fun b => match b.2 with
  | .fr => (F (a.1 ++ b.1)).bind fun d => .ok (d, .fr)
  | _ => .bad
theorem px_callG {x : Str} {ps : List Str} {k j m : Nat} {F : List D → R D} {g1 g2 : EA} {p pos : Pos} {e : Expr} {es : List Expr} (c : CalG G X.prog X.w X.mg X.base k x ps m F) (hr : Room j X.A) (hj : k ≤ j) (hg : Gl X x) (tk : Takes X W)
    (ha : PA X (e :: es) (tA2 G W g1 g2)) (hm1 : ∀ ρ a, g1 ρ = .ok a → a.1.length = m) (hK : X.K = G.K := by rfl) (hdb : (x == ("__debug__" : Str)) = false := by decide) (he : starEach (e :: es) X.env = (false, eval e X.env) :: starEach es X.env := by rfl) (hpl : (backTo pos (starEach es X.env)).any (·.1) = false := by rfl) :
    PE X (.Call (.Name x p) (e :: es) [] pos) (tE G W (eCallG F g1 g2)) := by
  obtain ⟨f, fd, ok, hm, hk, hb, _⟩ := c.at'
  refine PE.of (pe_callS (E := WE W) (by rw [hK]; exact ok) (hr.mono hj) hg hm (by rw [hK]; exact hk) (by rw [hK]; exact hb) (fun σ => passAt tk σ) ha hdb he hpl) fun σ H Q ⟨fp, fv, ρ, I, q⟩ => ?_
  refine ⟨fp, fv, ρ, I, ?_⟩
  unfold eCallG at q
  cases z1 : g1 ρ with
  | ex e =>
    rw [z1] at q
    exact q
  | bad =>
    rw [z1] at q
    exact q.elim
  | ok a =>
    rw [z1] at q
    cases z2 : g2 ρ with
    | ex e =>
      simp only [z2, R.bind] at q ⊢
      exact q
    | bad =>
      simp only [z2, R.bind] at q
    | ok b =>
      obtain ⟨ds2, m2⟩ := b
      simp only [z2, R.bind] at q ⊢
      intro vs1 vs2 H1 H2 e1 e2 w1 w2
      cases m2 with
      | sh => exact q.elim
      | tr => exact q.elim
      | fr =>
        obtain ⟨f2, o2, n2, a2⟩ := w2
        have hd : (a.1 ++ ds2).length = ps.length := by
          by_cases z : (a.1 ++ ds2).length = ps.length
          · exact z
          · simp only [c.len _ z] at q
        have lv : (vs1 ++ vs2).length = ps.length := by
          rw [← hd, List.length_append, List.length_append, w1.length, OTs.length (f := f2) o2]
        refine ⟨lv, a.1, ds2, vs1, vs2, f2, rfl, hm1 ρ a z1, (Reps.weak (fun b hb z => ?_) a.1 vs1 w1.tr).same e2, o2, n2, ?_⟩
        · obtain ⟨o, ho⟩ := hb
          rw [a2 b z] at ho
          cases ho
        have sm : ∀ H', (∀ b o, b ∉ f2 → H2 b = some o → H' b = some o) → Same H H' := fun H' kp b o hb => by
          refine kp b o (fun z => ?_) (e2 b o (e1 b o hb))
          have := a2 b z
          rw [e1 b o hb] at this
          cases this
        cases z : F (a.1 ++ ds2) with
        | ok d =>
          simp only [z] at q
          refine fun v H' kp ⟨f', o', n', s'⟩ => q v H' (sm H' kp) ⟨f', o', n', fun b hb => ?_⟩
          rcases s' b hb with y | y
          · exact e1.free (a2 b y)
          · exact e1.free (e2.free y)
        | ex e =>
          simp only [z] at q
          exact fun H' kp => q H' (sm H' kp)
        | bad =>
          simp only [z] at q
end
theorem fnG_eq (m n N : Nat) (body : S) (ds : List D) (h : ds.length = n) : fnG m n N body ds = (body ((ds.take m).map Sl.shr ++ (ds.drop m).map Sl.own ++ List.replicate (N - n) Sl.nil)).res := by
  unfold fnG
  rw [if_pos h]
  cases body ((ds.take m).map Sl.shr ++ (ds.drop m).map Sl.own ++ List.replicate (N - n) Sl.nil) <;> rfl
def giveM (F : List D → R D) (a b : List D) (m : Md) : R (D × Md) := match m with
  | .fr => (F (a ++ b)).bind fun d => .ok (d, .fr)
  | _ => .bad
@[simp] theorem eCallG_eq (F : List D → R D) (g1 g2 : EA) (ρ : Rho) : eCallG F g1 g2 ρ = (g1 ρ).bind fun a => (g2 ρ).bind fun b => giveM F a.1 b.1 b.2 := rfl
@[simp] theorem giveM_fr (F : List D → R D) (a b : List D) : giveM F a b .fr = (F (a ++ b)).bind fun d => .ok (d, .fr) := rfl
theorem len_nil (ρ : Rho) (a : List D × Md) (h : eNil ρ = .ok a) : a.1.length = 0 := by
  cases h
  rfl
theorem len_cons {f : E} {g : EA} {m : Nat} (hg : ∀ ρ a, g ρ = .ok a → a.1.length = m) (ρ : Rho) (a : List D × Md) (h : eCons f g ρ = .ok a) : a.1.length = m + 1 := by
  unfold eCons at h
  cases z : f ρ with
  | ok b =>
    cases z2 : g ρ with
    | ok c =>
      simp only [z, z2, R.bind] at h
      cases h
      simp only [List.length_cons, hg ρ c z2]
    | _ =>
      simp only [z, z2, R.bind] at h
      cases h
  | _ =>
    simp only [z, R.bind] at h
    cases h
/-! tuples of tuples, written -/
theorem Tpl.ofT2 {K : PySem.W.Frag} {cl : Nat → Addr} {mg : Str → Option Value} {x : Str} {a : Addr} {n : Nat} {sl : Array (Option Value)} {a0 : Addr} {od0 : Option Addr} {its0 : Array Value} {n0 : Nat} {sl0 : Array (Option Value)} {ds0 : List D} {a1 : Addr} {od1 : Option Addr} {its1 : Array Value} {n1 : Nat} {sl1 : Array (Option Value)} {ds1 : List D} (h : mg x = some (.ref a)) (hl : K.lookup a = some ⟨.type "tuple", none, .seq #[.ref a0, .ref a1] n, sl⟩) (h0 : K.lookup a0 = some ⟨.type "tuple", od0, .seq its0 n0, sl0⟩) (s0 : CVs ⟨K, cl, 0, 0⟩ ds0 its0.toList) (d0 : ds0.length ≤ 1000) (h1 : K.lookup a1 = some ⟨.type "tuple", od1, .seq its1 n1, sl1⟩) (s1 : CVs ⟨K, cl, 0, 0⟩ ds1 its1.toList) (d1 : ds1.length ≤ 1000) : Tpl ⟨K, cl, 0, 0⟩ mg x (.tup [.tup ds0, .tup ds1]) :=
  Tpl.of h hl (CVs.cons (CV.tup h0 s0 d0) (CVs.cons (CV.tup h1 s1 d1) CVs.nil)) (by simp only [List.length_cons, List.length_nil]; decide)
theorem Tpl.ofT3 {K : PySem.W.Frag} {cl : Nat → Addr} {mg : Str → Option Value} {x : Str} {a : Addr} {n : Nat} {sl : Array (Option Value)} {a0 : Addr} {od0 : Option Addr} {its0 : Array Value} {n0 : Nat} {sl0 : Array (Option Value)} {ds0 : List D} {a1 : Addr} {od1 : Option Addr} {its1 : Array Value} {n1 : Nat} {sl1 : Array (Option Value)} {ds1 : List D} {a2 : Addr} {od2 : Option Addr} {its2 : Array Value} {n2 : Nat} {sl2 : Array (Option Value)} {ds2 : List D} (h : mg x = some (.ref a)) (hl : K.lookup a = some ⟨.type "tuple", none, .seq #[.ref a0, .ref a1, .ref a2] n, sl⟩) (h0 : K.lookup a0 = some ⟨.type "tuple", od0, .seq its0 n0, sl0⟩) (s0 : CVs ⟨K, cl, 0, 0⟩ ds0 its0.toList) (d0 : ds0.length ≤ 1000) (h1 : K.lookup a1 = some ⟨.type "tuple", od1, .seq its1 n1, sl1⟩) (s1 : CVs ⟨K, cl, 0, 0⟩ ds1 its1.toList) (d1 : ds1.length ≤ 1000) (h2 : K.lookup a2 = some ⟨.type "tuple", od2, .seq its2 n2, sl2⟩) (s2 : CVs ⟨K, cl, 0, 0⟩ ds2 its2.toList) (d2 : ds2.length ≤ 1000) : Tpl ⟨K, cl, 0, 0⟩ mg x (.tup [.tup ds0, .tup ds1, .tup ds2]) :=
  Tpl.of h hl (CVs.cons (CV.tup h0 s0 d0) (CVs.cons (CV.tup h1 s1 d1) (CVs.cons (CV.tup h2 s2 d2) CVs.nil))) (by simp only [List.length_cons, List.length_nil]; decide)
end Dn
set_option Elab.async false
set_option linter.all false
set_option maxRecDepth 100000
set_option maxHeartbeats 2000000
/-! Dn47: try .. except; the error in hand, looked at, handed on. -/
namespace Dn
open PySem L2
abbrev Cts.at (G : Cts) (a : Addr) (e : Nat) : Cts := ⟨G.K, G.cls, a, e⟩
section
variable {G G' : Cts} {av : Addr → Prop} {H H' : Hp}
mutual
theorem Rep.cts (hK : G.K = G'.K) (hc : G.cls = G'.cls) : ∀ (d : D) (v : V), Rep G av H d v → Rep G' av H d v
  | .non, v, h => h
  | .bl _, v, h => h
  | .int _, v, h => h
  | .str _, v, h => h
  | .tup ds, v, h => by
    obtain ⟨a, vs, e, s, r⟩ := h
    exact ⟨a, vs, e, by rw [← hK]; exact s, Reps.cts hK hc ds vs r⟩
  | .lst ds, v, h => by
    obtain ⟨a, vs, e, n, s, r⟩ := h
    exact ⟨a, vs, e, n, s, Reps.cts hK hc ds vs r⟩
  | .dct ks ds, v, h => by
    obtain ⟨a, kvs, e, n, s, q, r⟩ := h
    exact ⟨a, kvs, e, n, s, q, Reps.cts hK hc ds _ r⟩
  | .obj c ns ds, v, h => by
    obtain ⟨a, dx, fs, e, n, s, q, r⟩ := h
    exact ⟨a, dx, fs, e, n, by rw [← hc]; exact s, q, Reps.cts hK hc ds _ r⟩
  | .scr ns, v, h => by
    obtain ⟨a, e, s⟩ := h
    exact ⟨a, e, by rw [← hK]; exact s⟩
  | .ty _, v, h => h
  | .cls c, v, h => by
    show v = .ref (G'.cls c)
    rw [← hc]
    exact h
theorem Reps.cts (hK : G.K = G'.K) (hc : G.cls = G'.cls) : ∀ (ds : List D) (vs : List V), Reps G av H ds vs → Reps G' av H ds vs
  | [], vs, h => h
  | d :: ds, vs, h => by
    obtain ⟨v, r, e, h1, h2⟩ := h
    exact ⟨v, r, e, Rep.cts hK hc d v h1, Reps.cts hK hc ds r h2⟩
end
mutual
theorem OT.cts (hK : G.K = G'.K) (hc : G.cls = G'.cls) : ∀ (d : D) (v : V) (fp : List Addr), OT G H d v fp → OT G' H d v fp
  | .non, v, _, h => h
  | .bl _, v, _, h => h
  | .int _, v, _, h => h
  | .str _, v, _, h => h
  | .tup ds, v, fp, h => by
    obtain ⟨a, vs, e, s, r⟩ := h
    exact ⟨a, vs, e, by rw [← hK]; exact s, OTs.cts hK hc ds vs fp r⟩
  | .lst ds, v, fp, h => by
    obtain ⟨a, vs, f, e, ef, s, r⟩ := h
    exact ⟨a, vs, f, e, ef, s, OTs.cts hK hc ds vs f r⟩
  | .dct ks ds, v, fp, h => by
    obtain ⟨a, kvs, f, e, ef, s, q, r⟩ := h
    exact ⟨a, kvs, f, e, ef, s, q, OTs.cts hK hc ds _ f r⟩
  | .obj c ns ds, v, fp, h => by
    obtain ⟨a, dx, fs, f, e, ef, s, q, r⟩ := h
    exact ⟨a, dx, fs, f, e, ef, by rw [← hc]; exact s, q, OTs.cts hK hc ds _ f r⟩
  | .scr ns, v, fp, h => by
    obtain ⟨⟨a, e, s⟩, ef⟩ := h
    exact ⟨⟨a, e, by rw [← hK]; exact s⟩, ef⟩
  | .ty _, v, _, h => h
  | .cls c, v, fp, h => by
    obtain ⟨h1, h2⟩ := h
    exact ⟨by rw [← hc]; exact h1, h2⟩
theorem OTs.cts (hK : G.K = G'.K) (hc : G.cls = G'.cls) : ∀ (ds : List D) (vs : List V) (fp : List Addr), OTs G H ds vs fp → OTs G' H ds vs fp
  | [], vs, _, h => h
  | d :: ds, vs, fp, h => by
    obtain ⟨v, r, f, g, e, ef, h1, h2⟩ := h
    exact ⟨v, r, f, g, e, ef, OT.cts hK hc d v f h1, OTs.cts hK hc ds r g h2⟩
end
theorem Tk.cts (hK : G.K = G'.K) (t : Tk G H H') : Tk G' H H' := ⟨fun a xs h => by rw [← hK] at h ⊢; exact t.1 a xs h, fun a xs h => by rw [← hK] at h ⊢; exact t.2 a xs h⟩
theorem Fresh.cts (hK : G.K = G'.K) (hc : G.cls = G'.cls) {d : D} {v : V} (h : Fresh G H H' d v) : Fresh G' H H' d v := by
  obtain ⟨f, a, b, c⟩ := h
  exact ⟨f, OT.cts hK hc d v f a, b, c⟩
/-- without the error in hand -/
def clrS : Sl → Sl
  | .exc _ => .nil
  | s => s
def clr (ρ : Rho) : Rho := ρ.map clrS
variable {fp : Nat → List Addr} {fv : Nat → Option V} {σ : L2.St} {ρ : Rho} {H0 : Hp} {io : Addr → Prop}
theorem SlOk.cts (hK : G.K = G'.K) (hc : G.cls = G'.cls) {f : List Addr} {w : Option (Option V)} {x : Option V} : ∀ {s : Sl}, SlOk G av H f w x s → SlOk G' av H f w x (clrS s)
  | .nil, _ => trivial
  | .shr d, ⟨v, a, b⟩ => ⟨v, a, Rep.cts hK hc d v b⟩
  | .own d, ⟨v, a, b⟩ => ⟨v, a, OT.cts hK hc d v f b⟩
  | .io d, ⟨v, a, b, c⟩ => ⟨v, a, b, OT.cts hK hc d v f c⟩
  | .exc _, _ => trivial
theorem LSR.cts (hK : G.K = G'.K) (hc : G.cls = G'.cls) (I : LSR G fp fv σ H ρ) : LSR G' fp fv σ H (clr ρ) := by
  refine ⟨by rw [I.len, clr, List.length_map], I.nd, I.dj, I.al, fun i s hs => ?_⟩
  unfold clr at hs
  rw [List.getElem?_map] at hs
  cases q : ρ[i]? with
  | none =>
    rw [q] at hs
    cases hs
  | some t =>
    rw [q] at hs
    cases hs
    exact (I.sl i t q).cts hK hc
theorem FSR.cts (hK : G.K = G'.K) (hc : G.cls = G'.cls) (I : FSR G H0 io fp fv σ H ρ) : FSR G' H0 io fp fv σ H (clr ρ) := ⟨I.l.cts hK hc, I.keep, I.tk.cts hK, I.src⟩
/-- a slot gets something that is nobody's -/
theorem LSR.drop (I : LSR G fp fv σ H ρ) (i : Nat) {w : Option V} {s : Sl} (hs : ∀ av f x, SlOk G av H f (some w) x s) : LSR G (upF fp i []) fv (σ.set i w) H (ρ.set i s) := by
  have wk : ∀ a, (∃ o, H a = some o) → Own (upF fp i []) a → Own fp a := fun a _ ⟨j, hj⟩ => by
    by_cases z : j = i
    · subst z
      rw [upF_same] at hj
      cases hj
    · rw [upF_ne z] at hj
      exact ⟨j, hj⟩
  refine ⟨by rw [List.length_set, List.length_set, I.len], fun j => ?_, fun j k hjk a hj hk => ?_, fun j a hj => ?_, fun j t hj => ?_⟩
  · by_cases z : j = i
    · subst z
      rw [upF_same]
      exact List.nodup_nil
    · rw [upF_ne z]
      exact I.nd j
  · by_cases z : j = i
    · subst z
      rw [upF_same] at hj
      cases hj
    · by_cases z' : k = i
      · subst z'
        rw [upF_same] at hk
        cases hk
      · rw [upF_ne z] at hj
        rw [upF_ne z'] at hk
        exact I.dj j k hjk a hj hk
  · by_cases z : j = i
    · subst z
      rw [upF_same] at hj
      cases hj
    · rw [upF_ne z] at hj
      exact I.al j a hj
  · by_cases z : j = i
    · subst z
      have hi : j < ρ.length := by
        have := (List.getElem?_eq_some_iff.mp hj).1
        rw [List.length_set] at this
        exact this
      rw [List.getElem?_set_self (by rw [I.len]; exact hi)]
      rw [List.getElem?_set_self hi] at hj
      cases hj
      exact hs _ _ _
    · rw [upF_ne z, List.getElem?_set_ne (Ne.symm z)]
      rw [List.getElem?_set_ne (Ne.symm z)] at hj
      exact (I.sl j t hj).weak wk
theorem FSR.drop (I : FSR G H0 io fp fv σ H ρ) (i : Nat) {w : Option V} {s : Sl} (hs : ∀ av f x, SlOk G av H f (some w) x s) : FSR G H0 io (upF fp i []) fv (σ.set i w) H (ρ.set i s) :=
  ⟨I.l.drop i hs, I.keep, I.tk, fun j a hj => by
    by_cases z : j = i
    · subst z
      rw [upF_same] at hj
      cases hj
    · rw [upF_ne z] at hj
      exact I.src j a hj⟩
end
/-! ### classes of errors: 0 is over all others -/
def subB (e c : Nat) : Bool := c == 0 || e == c
structure ErrG (G : Cts) (m : Nat) : Prop where
  ec : ∀ e, e < m → ExcC G.K (G.cls e)
  sb : ∀ e, e < m → ∀ c, c < m → PySem.W.subIn G.K (.ref (G.cls e)) (.ref (G.cls c)) = some (subB e c)
  ty : ∀ c, c < m → PySem.W.typeIn G.K (.ref (G.cls c)) = some (.type "type")
  sv : ∀ e, e < m → PySem.W.subIn G.K (.ref (G.cls e)) (.type "ValueError") = some true
  ap : ∀ e, e < m → ∀ c, c < m → G.cls e = G.cls c → e = c
theorem kitC_ref {K : PySem.W.Frag} {t : Value} {C : Addr} {b : Bool} (hd : PySem.W.hasDictIn K C = true) (ht : PySem.W.typeIn K (.ref C) = some (.type "type")) (h : PySem.W.subIn K t (.ref C) = some b) : PySem.W.kitCls K t (.ref C) = some b := by
  obtain ⟨cd, hc, _⟩ := PySem.W.any_some hd
  have z : ((PySem.W.clsIn K C).isSome && PySem.W.typeIn K (.ref C) == some (.type "type")) = true := by rw [hc, ht]; rfl
  unfold PySem.W.kitCls
  simp only [z, if_true]
  exact h
theorem ErrG.kit {G : Cts} {m : Nat} (E : ErrG G m) {e c : Nat} (he : e < m) (hc : c < m) : PySem.W.kitOne G.K (.ref (G.cls e)) (.ref (G.cls c)) = some (subB e c) := by
  unfold PySem.W.kitOne
  by_cases z : (Value.ref (G.cls e) == Value.ref (G.cls c)) = true
  · rw [if_pos z]
    have := E.ap e he c hc (Value.ref.inj (beq_iff_eq.mp z))
    subst this
    unfold subB
    simp
  · rw [if_neg z]
    exact kitC_ref (E.ec c hc).hd (E.ty c hc) (E.sb e he c hc)
theorem ErrG.kitV {G : Cts} {m : Nat} (E : ErrG G m) {e : Nat} (he : e < m) : PySem.W.kitOne G.K (.ref (G.cls e)) (.type "ValueError") = some true := by
  unfold PySem.W.kitOne
  rw [if_neg (by intro z; cases (beq_iff_eq.mp z))]
  have z : PySem.W.kitMeta "ValueError" = true := by decide +kernel
  unfold PySem.W.kitCls
  simp only [z, if_true]
  exact E.sv e he
theorem ErrG.exm {G : Cts} {m : Nat} (E : ErrG G m) {e c : Nat} (he : e < m) (hc : c < m) : PySem.W.exmOne G.K (.ref (G.cls e)) (.ref (G.cls c)) = some (subB e c) :=
  PySem.W.exm_ref (E.ec c hc).hs (E.ec c hc).hd (E.ty c hc) (E.sb e he c hc)
theorem ErrG.at {G : Cts} {m : Nat} (E : ErrG G m) (a : Addr) (e : Nat) : ErrG (G.at a e) m := ⟨E.ec, E.sb, E.ty, E.sv, E.ap⟩

/-! ### the error in hand -/
/-- it is held by the context -/
structure XP (X : Cx) (G : Cts) (m : Nat) : Prop where
  lt : G.xe < m
  at' : ∃ oe, Zc (.ref (G.cls G.xe)) none oe ∧ (∃ vs, oe.data = .fields vs) ∧ (G.xa, oe) ∈ X.pn
section
variable {X : Cx} {G : Cts} {W : WX} {m : Nat}
def rIsEx (K : PySem.W.Frag) (D a : Addr) : List V → Hp → VK → Prop := fun xs H Q => ∃ (c : V) (cv : Value) (b : Bool), xs = [.ref a, c] ∧ (∀ u, RelV c u → u = cv) ∧ PySem.W.kitOne K (.ref D) cv = some b ∧ Q (.bl b) H
theorem call_isX (Z : XP X G m) (C : ErrG G m) (hK : X.K = G.K := by rfl) : CallR X (.builtin "isinstance") (rIsEx G.K (G.cls G.xe) G.xa) := fun pins s σ H xs us Q I r ⟨c, cv, b, ex, hcv, e, q⟩ => by
  obtain ⟨oe, ⟨z1, z2⟩, ⟨vs, hv⟩, hp⟩ := Z.at'
  subst ex
  obtain ⟨u1, u2, rfl, r1, r2⟩ := vals2 r
  obtain rfl : u1 = Value.ref G.xa := r1
  obtain rfl := hcv u2 r2
  have hget := (I.pin (G.xa, oe) (List.mem_append_left _ hp)).1
  have J : PySem.W.InstAt s.heap G.xa oe (G.cls G.xe) none := by
    rcases oe with ⟨oc, od, oda, osl⟩
    obtain rfl : oc = _ := z1
    obtain rfl : od = none := z2
    obtain rfl : oda = _ := hv
    exact ⟨hget, rfl, rfl, trivial⟩
  have E := C.ec G.xe Z.lt
  rw [← hK] at E e
  exact PySem.W.kia_one (PySem.W.handS_kitx_exc E.hg E.hk E.hs E.hd E.ha E.hn E.ht E.hm) I.kIn J e (fun z => nomatch z) fun tk => ⟨.bl b, H, I.kept (t' := tk) fun _ _ y => y, rfl, q⟩
/-- isinstance(e, c) -/
def eIsE (m i c : Nat) : E := fun ρ => match ρ[i]? with
  | some (.exc e) => .ok (.bl (subB e c), .fr)
  | _ => .bad
def eIsV (i : Nat) : E := fun ρ => match ρ[i]? with
  | some (.exc e) => .ok (.bl true, .fr)
  | _ => .bad
theorem px_isE {x y : Str} {i c : Nat} {p1 p2 p3 pos : Pos} (Z : XP X G m) (C : ErrG G m) (hc : c < m) (h : PE X (.Name x p2) (tVar i)) (hx : ExAt G X.mg y c) (hgy : Gl X y) (hg : Gl X "isinstance") (hm : X.mg "isinstance" = none)
    (hdy : (y == ("__debug__" : Str)) = false := by decide) (hK : X.K = G.K := by rfl) :
    PE X (.Call (.Name "isinstance" p1) [.Name x p2, .Name y p3] [] pos) (tE G W (eIsE m i c)) := by
  refine PE.of (pe_callB (call_isX Z C hK) hg hm (by decide +kernel) (pa_cons h (pa_cons (pe_glob (v := V.ref (G.cls c)) hgy hx.g rfl hdy) pa_nil))) fun σ H Q ⟨fp, fv, ρ, I, q⟩ => ?_
  unfold eIsE at q
  cases e : ρ[i]? with
  | none =>
    rw [e] at q
    exact q.elim
  | some s =>
    rw [e] at q
    have r := I.sl i s e
    cases s with
    | exc k =>
      obtain ⟨r1, r2⟩ := r
      subst r2
      exact ⟨_, r1, .ref (G.cls c), .ref (G.cls c), subB G.xe c, rfl, fun u hu => hu, C.kit Z.lt hc, q (.bl _) H (Same.refl H) (Fresh.of_imm (av := Nav) rfl rfl)⟩
    | _ => exact q.elim
theorem px_isV {x : Str} {i : Nat} {p1 p2 p3 pos : Pos} (Z : XP X G m) (C : ErrG G m) (h : PE X (.Name x p2) (tVar i)) (hgy : Gl X "ValueError") (hmy : X.mg "ValueError" = none) (hg : Gl X "isinstance") (hm : X.mg "isinstance" = none) (hK : X.K = G.K := by rfl) :
    PE X (.Call (.Name "isinstance" p1) [.Name x p2, .Name "ValueError" p3] [] pos) (tE G W (eIsV i)) := by
  refine PE.of (pe_callB (call_isX Z C hK) hg hm (by decide +kernel) (pa_cons h (pa_cons (pe_bltn hgy hmy (by decide +kernel) (v := .ty "ValueError") rfl) pa_nil))) fun σ H Q ⟨fp, fv, ρ, I, q⟩ => ?_
  unfold eIsV at q
  cases e : ρ[i]? with
  | none =>
    rw [e] at q
    exact q.elim
  | some s =>
    rw [e] at q
    have r := I.sl i s e
    cases s with
    | exc k =>
      obtain ⟨r1, r2⟩ := r
      subst r2
      exact ⟨_, r1, .ty "ValueError", .type "ValueError", true, rfl, fun u hu => hu, C.kitV Z.lt, q (.bl _) H (Same.refl H) (Fresh.of_imm (av := Nav) rfl rfl)⟩
    | _ => exact q.elim
end
/-! ### a def that is told the error in hand -/
/-- what its body makes of it: N names -/
def fnE (N : Nat) (body : S) (e : Nat) : R D := match body (.exc e :: List.replicate (N - 1) Sl.nil) with
  | .rt d _ => .ok d
  | .nx _ => .ok .non
  | _ => .bad
/-- the promise -/
def SpE (G : Cts) (m : Nat) (F : Nat → R D) (p : Addr × Obj) : Sp := fun vs H Q E' => vs = [.ref p.1] ∧ ∃ e, e < m ∧ Zc (.ref (G.cls e)) none p.2 ∧ (∃ us, p.2.data = .fields us) ∧ match F e with
  | .ok d => ∀ v H', Same H H' → Fresh G H H' d v → Q v H'
  | _ => False
theorem _root_.L2H.RoomH.units {k : Nat} {A : Around} (r : L2H.RoomH k A) : A.units + 64 < cLine := by
  have := r.un
  omega
theorem huH {k : Nat} {A : Around} (r : L2H.RoomH k A) : A.units + 1 < cLine := by
  have := r.un
  omega
structure FnX (P : Program) (w : World) (K : PySem.W.Frag) (mg : Str → Option Value) (base : Heap) (k : Nat) (f : Addr) (fd : FuncData) (ps : List Str) (sp : Addr × Obj → Sp) : Prop where
  run : ∀ (p : Addr × Obj) (A : Around) (outer : List Env) (s : Shared) (H : Hp) (us : List Value) (vs : List V) (Q : VK) (E : XK), L2H.RoomH k A → L2H.PinOk outer H s p → Env0 P w K mg base A outer s H → BindsTo s fd ⟨us, []⟩ (ps.zip us) → Vals vs us → vs.length = ps.length → sp p vs H Q E →
    codeAny (model P w) A (.call (.ref f) ⟨us, []⟩) (CR (L2.CX P w) outer P w H s Q E) s
section
variable {P : Program} {w : World} {K : PySem.W.Frag} {mg : Str → Option Value} {base : Heap} {G : Cts}
abbrev cxP (P : Program) (w : World) (K : PySem.W.Frag) (mg : Str → Option Value) (base : Heap) (N : List Str) (qual : Str) (st : Stmt) (f : Addr) (cd : Value) (A : Around) (outer : List Env) (s : Shared) (H : Hp) (E : XK) (p : Addr × Obj) : Cx := L2H.cxH (L2.CX P w) P w K mg base N qual (defScope st) f cd A outer s H E p
theorem fun_okP {x qual : Str} {st : Stmt} {f : Addr} {fd : FuncData} {N ps : List Str} {k : Nat} {sp : Addr × Obj → Sp} (F : Fun K x qual st f fd) (S : FnScope N ps (defScope st))
    (hbody : ∀ (cdv : Value) (p : Addr × Obj) (A : Around) (outer : List Env) (s : Shared) (H : Hp) (vs : List V) (Q : VK) (E : XK), L2H.RoomH k (A.deeper (PyProof.Rows.envOfC qual (defScope st) s.heap.objs.size f cdv)) → sp p vs H Q E →
      ∃ t, PSs (cxP P w K mg base N qual st f cdv A outer s H E p) (defBody st) t ∧ t { nx := fun _ H' => Q .non H', rt := Q } (L2.start N vs) H) :
    FnX P w K mg base (k + 1) f fd ps sp := by
  obtain ⟨oc, od, kV, doc, pm, an, cdv, ct, osl, rfl, lk, hcd⟩ := F.ex
  refine ⟨fun p A outer s H us vs Q E room hpin env0 bind rel len wish => ?_⟩
  have kin := env0.mod.kin.keeps fun b o e => (env0.bs b o e).1
  refine codeAny_call_function room.depth (kin _ _ lk) rfl S.co S.gen rfl (PySem.W.codeRec_of kin hcd) (bind _ _ _ _ ?_)
  refine wpAny_newFunctionEnv_cells S.kind (fun nv hnv => ?_) fun env he s1 x => ?_
  · rcases S.par nv.1 (List.of_mem_zip (show (nv.1, nv.2) ∈ _ from hnv)).1 with q | q
    · exact .inl q
    · exact .inr ⟨q, PySem.W.cellsFrom_some _ _ _ (.inl q)⟩
  · subst he
    have lim := env0.mod.nolimit.keeps fun b o e => (env0.bs b o e).1
    refine ⟨lim.keeps x.toInCall.keep, codeAny_func ?_⟩
    obtain ⟨t, run, goal⟩ := hbody cdv p A outer s H vs Q E (room.deeper _) wish
    have start := L2H.inv_startH (CX := L2.CX P w) (E := E) S hpin env0 len rel x
    refine wpAny_mono (run.run [] s1 _ H _ start goal) (fun fl s' res => ?_) fun _ _ z => z
    have done : ∀ {τ : L2.St} {J : Hp} {y : V} {u : Value}, Inv (cxP P w K mg base N qual st f cdv A outer s H E p) [] τ J s' → RelV y u → Q y J → CE outer P w H s Q u s' := fun i r g => ⟨_, _, i.os, i.bare, i.base, i.hok, r, g⟩
    match fl, res with
    | .ret _, ⟨_, _, _, i, r, g⟩ => exact done i r g
    | .next, ⟨_, _, i, g⟩ => exact done (y := V.non) i rfl g
    | .brk, ⟨_, _, _, g⟩ => exact g.elim
    | .cont, ⟨_, _, _, g⟩ => exact g.elim
theorem fn_denE {x qual n0 : Str} {st : Stmt} {f : Addr} {fd : FuncData} {N : List Str} {k m : Nat} {body : S} (F : Fun G.K x qual st f fd) (sc : FnScope N [n0] (defScope st)) (hN : 1 ≤ N.length)
    (hbody : ∀ (a : Addr) (e : Nat) (cdv : Value) (A : Around) (outer : List Env) (s : Shared) (H : Hp) (E' : XK) (oe : Obj), L2H.RoomH k (A.deeper (PyProof.Rows.envOfC qual (defScope st) s.heap.objs.size f cdv)) →
      XP (cxP P w G.K mg base N qual st f cdv A outer s H E' (a, oe)) (G.at a e) m →
      PSs (cxP P w G.K mg base N qual st f cdv A outer s H E' (a, oe)) (defBody st) (tS (G.at a e) (fun _ _ _ _ => False) body)) :
    FnX P w G.K mg base (k + 1) f fd [n0] (SpE G m (fnE N.length body)) := by
  refine fun_okP F sc fun cdv p A outer s H vs Q E' hr h => ?_
  obtain ⟨a, oe⟩ := p
  obtain ⟨rfl, e, he, hz, hf, q⟩ := h
  refine ⟨_, hbody a e cdv A outer s H E' oe hr ⟨he, oe, hz, hf, List.mem_cons_self⟩, ?_⟩
  refine ⟨H, fun _ => False, fun _ => [], fun _ => none, .exc e :: List.replicate (N.length - 1) Sl.nil, ⟨⟨?_, fun _ => List.nodup_nil, fun _ _ _ b (z : b ∈ []) => absurd z List.not_mem_nil, fun _ b (z : b ∈ []) => absurd z List.not_mem_nil, fun i s' hs => ?_⟩, fun _ _ _ z => z, Tk.refl, fun _ _ z => by cases z⟩, ?_⟩
  · simp only [L2.start, List.length_append, List.length_map, List.length_replicate, List.length_cons, List.length_nil]
    omega
  · cases i with
    | zero =>
      cases hs
      exact ⟨rfl, rfl⟩
    | succ i =>
      have hm : s' ∈ List.replicate (N.length - 1) Sl.nil := List.mem_of_getElem? (i := i) (by simpa using hs)
      rw [List.mem_replicate] at hm
      obtain ⟨_, rfl⟩ := hm
      exact trivial
  · unfold fnE at q
    cases z : body (.exc e :: List.replicate (N.length - 1) Sl.nil) with
    | nx ρ =>
      rw [z] at q
      exact fun σ' H' fp' J => q .non H' (fun b o h => J.keep b o (fun z => z) h) (Fresh.of_imm (av := Nav) rfl rfl)
    | rt d ρ =>
      rw [z] at q
      rintro v H' ⟨σ', fp', f', J, o, n, s''⟩
      exact q v H' (fun b o h => J.keep b o (fun z => z) h) ⟨f', OT.cts (G := G.at a e) (G' := G) rfl rfl d v f' o, n, fun b hb => (s'' b hb).1.elim False.elim id⟩
    | ex e ρ =>
      rw [z] at q
      exact q.elim
    | ct ρ =>
      rw [z] at q
      exact q.elim
    | bk ρ =>
      rw [z] at q
      exact q.elim
    | bad =>
      rw [z] at q
      exact q.elim
/-- such a def as its callers see it -/
structure CalE (G : Cts) (P : Program) (w : World) (mg : Str → Option Value) (base : Heap) (k m : Nat) (x : Str) (ps : List Str) (F : Nat → R D) : Prop where
  at' : ∃ f fd, FnX P w G.K mg base k f fd ps (SpE G m F) ∧ mg x = some (.ref f) ∧ PySem.W.keepIn G.K (.ref f) = true ∧ Binds G.K fd ps [] ∧ ps.length = 1
theorem CalE.at {k m : Nat} {x : Str} {ps : List Str} {F : Nat → R D} (c : CalE G P w mg base k m x ps F) (a : Addr) (e : Nat) : CalE (G.at a e) P w mg base k m x ps F := by
  obtain ⟨f, fd, h, r⟩ := c.at'
  refine ⟨f, fd, ⟨fun p A outer s H us vs Q E hr hp h0 hb hv hl hs => h.run p A outer s H us vs Q E hr hp h0 hb hv hl ?_⟩, r⟩
  obtain ⟨h1, e', h2, h3, h4, q⟩ := hs
  refine ⟨h1, e', h2, h3, h4, ?_⟩
  cases z : F e' with
  | ok d =>
    rw [z] at q
    exact fun v H' s f => q v H' s (Fresh.cts (G := G) (G' := G.at a e) rfl rfl f)
  | ex _ =>
    rw [z] at q
    exact q.elim
  | bad =>
    rw [z] at q
    exact q.elim
end
section
variable {X : Cx} {G : Cts} {W : WX} {m : Nat}
def eCallE (F : Nat → R D) (i : Nat) : E := fun ρ => match ρ[i]? with
  | some (.exc e) => (match F e with
    | .ok d => .ok (d, .fr)
    | _ => .bad)
  | _ => .bad
theorem px_callE {x y : Str} {ps : List Str} {k j i : Nat} {F : Nat → R D} {p p2 pos : Pos} (c : CalE G X.prog X.w X.mg X.base k m x ps F) (hr : L2H.RoomH j X.A) (hj : k ≤ j) (hg : Gl X x) (Z : XP X G m) (h : PE X (.Name y p2) (tVar i))
    (hK : X.K = G.K := by rfl) (hdb : (x == ("__debug__" : Str)) = false := by decide) (he : starEach [.Name y p2] X.env = [(false, eval (.Name y p2) X.env)] := by rfl) (hpl : (backTo pos (starEach [] X.env)).any (·.1) = false := by rfl) :
    PE X (.Call (.Name x p) [.Name y p2] [] pos) (tE G W (eCallE F i)) := by
  obtain ⟨f, fd, ok, hm, hk, hb, hl⟩ := c.at'
  refine ⟨fun pins s σ H Q I ⟨fp, fv, ρ, J, q⟩ => ?_⟩
  unfold eCallE at q
  cases e : ρ[i]? with
  | none =>
    rw [e] at q
    exact q.elim
  | some sl =>
    rw [e] at q
    have r := J.sl i sl e
    cases sl with
    | exc n =>
      obtain ⟨r1, r2⟩ := r
      subst r2
      refine wpAny_Call_Name_kw (ld_glob I hg hm ?_ hdb)
      rw [← hK] at hk
      refine PySem.W.callWith_K (h₀ := X.base) I.ok.mod.kin hk (thn ((pa_cons h pa_nil he).run pos pins s σ H (fun vs H1 => vs = [.ref G.xa] ∧ H1 = H) I ⟨_, r1, rfl, rfl⟩) fun us s1 ⟨vs, H1, I1, rv, ev, eh⟩ => ⟨I1.kIn, ?_⟩) he hpl
      subst ev eh
      obtain ⟨oe, hz, hf, hp⟩ := Z.at'
      have hu : us.length = ps.length := by rw [← rv.length, hl]; rfl
      have b := hb s1 us (by rw [← hK]; exact I1.kIn) (by rw [List.append_nil]; exact hu)
      rw [List.append_nil] at b
      have P1 := I1.pin (G.xa, oe) (List.mem_append_left _ hp)
      have pin : L2H.PinOk X.stack H1 s1 (G.xa, oe) := ⟨P1.1, P1.2.1, fun hm => (List.mem_cons.mp (I1.stkSub G.xa hm)).elim P1.2.2.1 P1.2.2.2.1, P1.2.2.2.2⟩
      have run := ok.run (G.xa, oe) X.A X.stack s1 H1 us _ Q (fun _ _ _ => False) ⟨by have := hr.dp; omega, by have := hr.un; omega⟩ pin (by rw [← hK]; exact I1.env0) b rv (by rw [hl]; rfl) ⟨rfl, G.xe, Z.lt, hz, hf, by
        cases z : F G.xe with
        | ok d =>
          simp only [z] at q
          exact fun v H' s' f' => q v H' s' f'
        | ex _ => simp only [z] at q
        | bad => simp only [z] at q⟩
      refine wpAny_call (codeAny_mono run fun res s' out => ?_)
      match res, out with
      | .ok (.ret u), out => exact I1.after out
      | .ok .next, out => exact out.elim
      | .ok .brk, out => exact out.elim
      | .ok .cont, out => exact out.elim
      | .error _, ⟨_, _, _, _, _, _, _, _, _, _, _, _, z⟩ => exact z.elim
    | _ => exact q.elim
end
/-! ### try -/
def SO.unx (i : Nat) : SO → SO
  | .nx ρ => .nx ((clr ρ).set i .nil)
  | .ct ρ => .ct ((clr ρ).set i .nil)
  | .bk ρ => .bk ((clr ρ).set i .nil)
  | .rt d ρ => .rt d ((clr ρ).set i .nil)
  | _ => .bad
def SO.unc : SO → SO
  | .nx ρ => .nx (clr ρ)
  | .ct ρ => .ct (clr ρ)
  | .bk ρ => .bk (clr ρ)
  | .rt d ρ => .rt d (clr ρ)
  | _ => .bad
/-- try: body, except c as the slot i: suite -/
def sTry (m i c : Nat) (body suite : S) : S := fun ρ => match body ρ with
  | .ex e ρ' => if e < m then (if subB e c = true then (suite ((clr ρ').set i (.exc e))).unx i else .ex e ρ') else .bad
  | r => r
/-- .. without a name -/
def sTry0 (m c : Nat) (body suite : S) : S := fun ρ => match body ρ with
  | .ex e ρ' => if e < m then (if subB e c = true then (suite (clr ρ')).unc else .ex e ρ') else .bad
  | r => r
section
variable {X : Cx} {G : Cts} {W : WX} {m c : Nat}
theorem px_try {x n : Str} {i : Nat} {body suite : List Stmt} {b₀ : Stmt} {np pos pos' : Pos} {fb fs : S} (E : ErrG G m) (hc : c < m) (hs : X.stack = X.env :: X.outer) (hf : X.env.frame = some X.env.locals) (hN : X.N.Nodup) (hi : X.N[i]? = some n)
    (hln : X.env.kindOf n = some .local) (hx : ExAt G X.mg x c) (hg : Gl X x) (tk : Takes X W)
    (hb : ∀ (W : WX) (pn : List (Addr × Obj)) (xe : Value → Shared → Prop), Takes (X.tr pn xe) W → PassesOwn (model X.prog X.w) X.A X.env xe → PSs (X.tr pn xe) body (tS G W fb))
    (hsu : ∀ (a : Addr) (oe : Obj) (pn : List (Addr × Obj)) (e : Nat), XP (X.suite a ((a, oe) :: pn)) (G.at a e) m → PSs (X.suite a ((a, oe) :: pn)) (b₀ :: suite) (tS (G.at a e) (fun _ _ _ _ => False) fs))
    (hK : X.K = G.K := by rfl) (hd : (x == ("__debug__" : Str)) = false := by decide) :
    PS X (.Try body [.ExceptHandler (some (.Name x np)) (some n) (b₀ :: suite) pos'] [] [] pos) (tS G W (sTry m i c fb fs)) := by
  refine PS.of (ps_try_as (c := .ref (G.cls c)) (ts := fun a cls d D σ H => ∃ e, e < m ∧ cls = .ref (G.cls e) ∧ d = none ∧ tS (G.at a e) (fun _ _ _ _ => False) fs D σ H) (Wout := W) (tb := fun W => tS G W fb) hs hf hN hi hln ⟨hg, hd, .inl hx.g⟩ tk hb ?_) ?_
  · intro a oe cls d pn hz hv
    refine ⟨fun pins s σ H D I ⟨e, he, hcls, hdd, q⟩ => ?_⟩
    subst hcls hdd
    exact (hsu a oe pn e ⟨he, oe, hz, hv, List.mem_cons_self⟩).run pins s σ H D I q
  · rintro D σ H ⟨H0, io, fp, fv, ρ, I, q⟩
    refine ⟨H0, io, fp, fv, ρ, I, ?_⟩
    unfold sTry at q
    cases z : fb ρ with
    | ex e ρ' =>
      rw [z] at q
      replace q : SK G W H0 io fv D (if e < m then (if subB e c = true then (fs ((clr ρ').set i (.exc e))).unx i else .ex e ρ') else .bad) := q
      intro σ1 H1 fp1 J
      by_cases he : e < m
      · rw [if_pos he] at q
        refine ⟨subB e c, by rw [hK]; exact E.exm he hc, fun hb1 a na => ?_, fun hb0 => ?_⟩
        · rw [if_pos hb1] at q
          refine ⟨e, he, rfl, rfl, H0, io, upF fp1 i [], fv, (clr ρ').set i (.exc e), (FSR.cts (G := G) (G' := G.at a e) rfl rfl J).drop i fun _ _ _ => ⟨rfl, rfl⟩, ?_⟩
          have back : ∀ {σ2 : L2.St} {H2 : Hp} {fp2 : Nat → List Addr} {ρ2 : Rho}, FSR (G.at a e) H0 io fp2 fv σ2 H2 ρ2 → FSR G H0 io (upF fp2 i []) fv (σ2.set i none) H2 ((clr ρ2).set i .nil) := fun K => (FSR.cts (G := G.at a e) (G' := G) rfl rfl K).drop i fun _ _ _ => trivial
          cases z2 : fs ((clr ρ').set i (.exc e)) with
          | nx ρ2 =>
            rw [z2] at q
            exact fun σ2 H2 fp2 K => q _ _ _ (back K)
          | ct ρ2 =>
            rw [z2] at q
            exact fun σ2 H2 fp2 K => q _ _ _ (back K)
          | bk ρ2 =>
            rw [z2] at q
            exact fun σ2 H2 fp2 K => q _ _ _ (back K)
          | rt d ρ2 =>
            rw [z2] at q
            rintro v H2 ⟨σ2, fp2, f, K, o, nd, s⟩
            refine q v H2 ⟨_, _, f, back K, OT.cts (G := G.at a e) (G' := G) rfl rfl d v f o, nd, fun b hb2 => ⟨(s b hb2).1, fun j hj => ?_⟩⟩
            by_cases y : j = i
            · subst y
              rw [upF_same] at hj
              cases hj
            · rw [upF_ne y] at hj
              exact (s b hb2).2 j hj
          | ex e2 ρ2 =>
            rw [z2] at q
            exact q.elim
          | bad =>
            rw [z2] at q
            exact q.elim
        · rw [if_neg (by rw [hb0]; exact Bool.false_ne_true)] at q
          exact q σ1 H1 fp1 J
      · rw [if_neg he] at q
        exact q.elim
    | nx ρ' =>
      rw [z] at q
      exact q
    | ct ρ' =>
      rw [z] at q
      exact q
    | bk ρ' =>
      rw [z] at q
      exact q
    | rt d ρ' =>
      rw [z] at q
      exact q
    | bad =>
      rw [z] at q
      exact q
theorem px_try0 {x : Str} {body suite : List Stmt} {b₀ : Stmt} {np pos pos' : Pos} {fb fs : S} (E : ErrG G m) (hc : c < m) (hs : X.stack = X.env :: X.outer) (hf : X.env.frame = some X.env.locals) (hx : ExAt G X.mg x c) (hg : Gl X x) (tk : Takes X W)
    (hb : ∀ (W : WX) (pn : List (Addr × Obj)) (xe : Value → Shared → Prop), Takes (X.tr pn xe) W → PassesOwn (model X.prog X.w) X.A X.env xe → PSs (X.tr pn xe) body (tS G W fb))
    (hsu : ∀ (a : Addr) (oe : Obj) (pn : List (Addr × Obj)) (e : Nat), XP (X.suite a ((a, oe) :: pn)) (G.at a e) m → PSs (X.suite a ((a, oe) :: pn)) (b₀ :: suite) (tS (G.at a e) (fun _ _ _ _ => False) fs))
    (hK : X.K = G.K := by rfl) (hd : (x == ("__debug__" : Str)) = false := by decide) :
    PS X (.Try body [.ExceptHandler (some (.Name x np)) none (b₀ :: suite) pos'] [] [] pos) (tS G W (sTry0 m c fb fs)) := by
  refine PS.of (ps_try_only (c := .ref (G.cls c)) (ts := fun a cls d D σ H => ∃ e, e < m ∧ cls = .ref (G.cls e) ∧ d = none ∧ tS (G.at a e) (fun _ _ _ _ => False) fs D σ H) (Wout := W) (tb := fun W => tS G W fb) hs hf ⟨hg, hd, .inl hx.g⟩ tk hb ?_) ?_
  · intro a oe cls d pn hz hv
    refine ⟨fun pins s σ H D I ⟨e, he, hcls, hdd, q⟩ => ?_⟩
    subst hcls hdd
    exact (hsu a oe pn e ⟨he, oe, hz, hv, List.mem_cons_self⟩).run pins s σ H D I q
  · rintro D σ H ⟨H0, io, fp, fv, ρ, I, q⟩
    refine ⟨H0, io, fp, fv, ρ, I, ?_⟩
    unfold sTry0 at q
    cases z : fb ρ with
    | ex e ρ' =>
      rw [z] at q
      replace q : SK G W H0 io fv D (if e < m then (if subB e c = true then (fs (clr ρ')).unc else .ex e ρ') else .bad) := q
      intro σ1 H1 fp1 J
      by_cases he : e < m
      · rw [if_pos he] at q
        refine ⟨subB e c, by rw [hK]; exact E.exm he hc, fun hb1 a na => ?_, fun hb0 => ?_⟩
        · rw [if_pos hb1] at q
          refine ⟨e, he, rfl, rfl, H0, io, fp1, fv, clr ρ', FSR.cts (G := G) (G' := G.at a e) rfl rfl J, ?_⟩
          have back : ∀ {σ2 : L2.St} {H2 : Hp} {fp2 : Nat → List Addr} {ρ2 : Rho}, FSR (G.at a e) H0 io fp2 fv σ2 H2 ρ2 → FSR G H0 io fp2 fv σ2 H2 (clr ρ2) := fun K => FSR.cts (G := G.at a e) (G' := G) rfl rfl K
          cases z2 : fs (clr ρ') with
          | nx ρ2 =>
            rw [z2] at q
            exact fun σ2 H2 fp2 K => q _ _ _ (back K)
          | ct ρ2 =>
            rw [z2] at q
            exact fun σ2 H2 fp2 K => q _ _ _ (back K)
          | bk ρ2 =>
            rw [z2] at q
            exact fun σ2 H2 fp2 K => q _ _ _ (back K)
          | rt d ρ2 =>
            rw [z2] at q
            rintro v H2 ⟨σ2, fp2, f, K, o, nd, s⟩
            exact q v H2 ⟨_, _, f, back K, OT.cts (G := G.at a e) (G' := G) rfl rfl d v f o, nd, s⟩
          | ex e2 ρ2 =>
            rw [z2] at q
            exact q.elim
          | bad =>
            rw [z2] at q
            exact q.elim
        · rw [if_neg (by rw [hb0]; exact Bool.false_ne_true)] at q
          exact q σ1 H1 fp1 J
      · rw [if_neg he] at q
        exact q.elim
    | nx ρ' =>
      rw [z] at q
      exact q
    | ct ρ' =>
      rw [z] at q
      exact q
    | bk ρ' =>
      rw [z] at q
      exact q
    | rt d ρ' =>
      rw [z] at q
      exact q
    | bad =>
      rw [z] at q
      exact q
end
/-! ### what is told to the reader -/
@[simp] theorem clr_nil : clr [] = [] := rfl
@[simp] theorem clr_cons (s : Sl) (ρ : Rho) : clr (s :: ρ) = clrS s :: clr ρ := rfl
@[simp] theorem clrS_nil : clrS .nil = .nil := rfl
@[simp] theorem clrS_shr (d : D) : clrS (.shr d) = .shr d := rfl
@[simp] theorem clrS_own (d : D) : clrS (.own d) = .own d := rfl
@[simp] theorem clrS_exc (e : Nat) : clrS (.exc e) = .nil := rfl
@[simp] theorem unx_nx (i : Nat) (ρ : Rho) : SO.unx i (.nx ρ) = .nx ((clr ρ).set i .nil) := rfl
@[simp] theorem unx_rt (i : Nat) (d : D) (ρ : Rho) : SO.unx i (.rt d ρ) = .rt d ((clr ρ).set i .nil) := rfl
@[simp] theorem unx_ct (i : Nat) (ρ : Rho) : SO.unx i (.ct ρ) = .ct ((clr ρ).set i .nil) := rfl
@[simp] theorem unx_bk (i : Nat) (ρ : Rho) : SO.unx i (.bk ρ) = .bk ((clr ρ).set i .nil) := rfl
@[simp] theorem unc_nx (ρ : Rho) : SO.unc (.nx ρ) = .nx (clr ρ) := rfl
@[simp] theorem unc_rt (d : D) (ρ : Rho) : SO.unc (.rt d ρ) = .rt d (clr ρ) := rfl
@[simp] theorem unc_ct (ρ : Rho) : SO.unc (.ct ρ) = .ct (clr ρ) := rfl
@[simp] theorem unc_bk (ρ : Rho) : SO.unc (.bk ρ) = .bk (clr ρ) := rfl
def SO.try (m i c : Nat) (fs : S) : SO → SO
  | .ex e ρ' => if e < m then (if subB e c = true then (fs ((clr ρ').set i (.exc e))).unx i else .ex e ρ') else .bad
  | r => r
@[simp] theorem sTry_eq (m i c : Nat) (fb fs : S) (ρ : Rho) : sTry m i c fb fs ρ = SO.try m i c fs (fb ρ) := rfl
@[simp] theorem try_ex (m i c : Nat) (fs : S) (e : Nat) (ρ : Rho) : SO.try m i c fs (.ex e ρ) = if e < m then (if subB e c = true then (fs ((clr ρ).set i (.exc e))).unx i else .ex e ρ) else .bad := rfl
@[simp] theorem try_nx (m i c : Nat) (fs : S) (ρ : Rho) : SO.try m i c fs (.nx ρ) = .nx ρ := rfl
@[simp] theorem try_ct (m i c : Nat) (fs : S) (ρ : Rho) : SO.try m i c fs (.ct ρ) = .ct ρ := rfl
@[simp] theorem try_bk (m i c : Nat) (fs : S) (ρ : Rho) : SO.try m i c fs (.bk ρ) = .bk ρ := rfl
@[simp] theorem try_rt (m i c : Nat) (fs : S) (d : D) (ρ : Rho) : SO.try m i c fs (.rt d ρ) = .rt d ρ := rfl
def SO.try0 (m c : Nat) (fs : S) : SO → SO
  | .ex e ρ' => if e < m then (if subB e c = true then (fs (clr ρ')).unc else .ex e ρ') else .bad
  | r => r
@[simp] theorem sTry0_eq (m c : Nat) (fb fs : S) (ρ : Rho) : sTry0 m c fb fs ρ = SO.try0 m c fs (fb ρ) := rfl
@[simp] theorem try0_ex (m c : Nat) (fs : S) (e : Nat) (ρ : Rho) : SO.try0 m c fs (.ex e ρ) = if e < m then (if subB e c = true then (fs (clr ρ)).unc else .ex e ρ) else .bad := rfl
@[simp] theorem try0_nx (m c : Nat) (fs : S) (ρ : Rho) : SO.try0 m c fs (.nx ρ) = .nx ρ := rfl
@[simp] theorem try0_ct (m c : Nat) (fs : S) (ρ : Rho) : SO.try0 m c fs (.ct ρ) = .ct ρ := rfl
@[simp] theorem try0_bk (m c : Nat) (fs : S) (ρ : Rho) : SO.try0 m c fs (.bk ρ) = .bk ρ := rfl
@[simp] theorem try0_rt (m c : Nat) (fs : S) (d : D) (ρ : Rho) : SO.try0 m c fs (.rt d ρ) = .rt d ρ := rfl
def Sl.isE (c : Nat) : Option Sl → R (D × Md)
  | some (.exc e) => .ok (.bl (subB e c), .fr)
  | _ => .bad
@[simp] theorem eIsE_eq (m i c : Nat) (ρ : Rho) : eIsE m i c ρ = Sl.isE c ρ[i]? := rfl
@[simp] theorem isE_exc (c e : Nat) : Sl.isE c (some (.exc e)) = .ok (.bl (subB e c), .fr) := rfl
def Sl.isV : Option Sl → R (D × Md)
  | some (.exc _) => .ok (.bl true, .fr)
  | _ => .bad
@[simp] theorem eIsV_eq (i : Nat) (ρ : Rho) : eIsV i ρ = Sl.isV ρ[i]? := rfl
@[simp] theorem isV_exc (e : Nat) : Sl.isV (some (.exc e)) = .ok (.bl true, .fr) := rfl
def R.frN : R D → R (D × Md)
  | .ok d => .ok (d, .fr)
  | _ => .bad
@[simp] theorem frN_ok (d : D) : R.frN (.ok d) = .ok (d, .fr) := rfl
def Sl.calE (F : Nat → R D) : Option Sl → R (D × Md)
  | some (.exc e) => R.frN (F e)
  | _ => .bad
@[simp] theorem eCallE_eq (F : Nat → R D) (i : Nat) (ρ : Rho) : eCallE F i ρ = Sl.calE F ρ[i]? := rfl
@[simp] theorem calE_exc (F : Nat → R D) (e : Nat) : Sl.calE F (some (.exc e)) = R.frN (F e) := rfl
theorem fnE_eq (N : Nat) (body : S) (e : Nat) (d : D) (h : (body (.exc e :: List.replicate (N - 1) Sl.nil)).res = .ok d) : fnE N body e = .ok d := by
  unfold fnE
  cases z : body (.exc e :: List.replicate (N - 1) Sl.nil) <;> rw [z] at h <;> first | exact h | cases h
/-! ### consts -/
section
variable {G : Cts} {mg : Str → Option Value}
theorem Cst.at {x : Str} {d : D} (c : Cst G mg x d) (a : Addr) (e : Nat) : Cst (G.at a e) mg x d := by
  obtain ⟨u, v, h1, h2, h3, h4⟩ := c.at'
  exact ⟨u, v, h1, h2, h3, fun H => Rep.cts (G := G) (G' := G.at a e) rfl rfl d v (h4 H)⟩
theorem Tpl.at {x : Str} {d : D} (c : Tpl G mg x d) (a : Addr) (e : Nat) : Tpl (G.at a e) mg x d := by
  obtain ⟨b, o, h1, h2, h3, h4, h5⟩ := c.at'
  exact ⟨b, o, h1, h2, h3, h4, fun H => Rep.cts (G := G) (G' := G.at a e) rfl rfl d _ (h5 H)⟩
theorem roomH_mark {k : Nat} {A : Around} (r : Room k A) (v : Option Value) : L2H.RoomH k (A.mark v) := ⟨r.dp, r.un⟩
def AllEx (K : PySem.W.Frag) (mg : Str → Option Value) : List Str → List Addr → Prop
  | [], [] => True
  | x :: xs, C :: cs => ExK K mg x C ∧ AllEx K mg xs cs
  | _, _ => False
theorem AllEx.get {K : PySem.W.Frag} : ∀ {xs : List Str} {cs : List Addr}, AllEx K mg xs cs → ∀ (i : Nat) (x : Str), xs[i]? = some x → ExK K mg x (cs.getD i 0)
  | [], _, _, i, x, h => by simp at h
  | y :: xs, [], e, _, _, _ => e.elim
  | y :: xs, C :: cs, ⟨h, _⟩, 0, x, e => by
    cases e
    exact h
  | y :: xs, C :: cs, ⟨_, h⟩, i + 1, x, e => AllEx.get h i x (by simpa using e)
theorem AllEx.len {K : PySem.W.Frag} : ∀ {xs : List Str} {cs : List Addr}, AllEx K mg xs cs → cs.length = xs.length
  | [], [], _ => rfl
  | [], _ :: _, e => e.elim
  | _ :: _, [], e => e.elim
  | _ :: _, _ :: _, ⟨_, h⟩ => congrArg (· + 1) (AllEx.len h)
def ErrRow (K : PySem.W.Frag) (D : Addr) (i : Nat) : Nat → List Addr → Prop
  | _, [] => True
  | j, C :: cs => PySem.W.subIn K (.ref D) (.ref C) = some (subB i j) ∧ ErrRow K D i (j + 1) cs
theorem ErrRow.get {K : PySem.W.Frag} {D : Addr} {i : Nat} : ∀ {j : Nat} {cs : List Addr}, ErrRow K D i j cs → ∀ k, k < cs.length → PySem.W.subIn K (.ref D) (.ref (cs.getD k 0)) = some (subB i (j + k))
  | _, [], _, k, h => absurd h (Nat.not_lt_zero _)
  | j, C :: cs, ⟨h, _⟩, 0, _ => h
  | j, C :: cs, ⟨_, h⟩, k + 1, e => by
    have := ErrRow.get h k (by simpa using e)
    rw [show j + 1 + k = j + (k + 1) by omega] at this
    exact this
structure ErrOne (K : PySem.W.Frag) (cs : List Addr) (D : Addr) (i : Nat) : Prop where
  e : ExcC K D
  t : PySem.W.typeIn K (.ref D) = some (.type "type")
  v : PySem.W.subIn K (.ref D) (.type "ValueError") = some true
  r : ErrRow K D i 0 cs
def ErrAll (K : PySem.W.Frag) (cs : List Addr) : Nat → List Addr → Prop
  | _, [] => True
  | i, D :: ds => ErrOne K cs D i ∧ ErrAll K cs (i + 1) ds
theorem ErrAll.get {K : PySem.W.Frag} {cs : List Addr} : ∀ {i : Nat} {ds : List Addr}, ErrAll K cs i ds → ∀ k, k < ds.length → ErrOne K cs (ds.getD k 0) (i + k)
  | _, [], _, k, h => absurd h (Nat.not_lt_zero _)
  | i, D :: ds, ⟨h, _⟩, 0, _ => h
  | i, D :: ds, ⟨_, h⟩, k + 1, e => by
    have := ErrAll.get h k (by simpa using e)
    rw [show i + 1 + k = i + (k + 1) by omega] at this
    exact this
def ErrL (K : PySem.W.Frag) (cs : List Addr) : Prop := cs.Nodup ∧ ErrAll K cs 0 cs
theorem ErrL.g {K : PySem.W.Frag} {xs : List Str} {cs : List Addr} (A : AllEx K mg xs cs) (h : ErrL K cs) : ErrG ⟨K, fun n => cs.getD n 0, 0, 0⟩ xs.length := by
  obtain ⟨nd, h⟩ := h
  rw [← A.len]
  have one : ∀ e, e < cs.length → ErrOne K cs (cs.getD e 0) e := fun e he => by
    have := ErrAll.get h e he
    rw [Nat.zero_add] at this
    exact this
  refine ⟨fun e he => (one e he).e, fun e he c hc => ?_, fun c hc => (one c hc).t, fun e he => (one e he).v, fun e he c hc q => ?_⟩
  · have := ErrRow.get (one e he).r c hc
    rw [Nat.zero_add] at this
    exact this
  · have q : cs.getD e 0 = cs.getD c 0 := q
    rw [List.getD_eq_getElem?_getD, List.getD_eq_getElem?_getD, List.getElem?_eq_getElem he, List.getElem?_eq_getElem hc] at q
    by_cases z : e = c
    · exact z
    · have pw := List.pairwise_iff_getElem.mp nd
      rcases Nat.lt_or_ge e c with y | y
      · exact absurd (by simpa using q) (pw e c he hc y)
      · exact absurd (by simpa using q.symm) (pw c e hc he (by omega))
theorem withE {p : Prop} {K : PySem.W.Frag} {h : Heap} (_ : K.In h) {mg : Str → Option Value} {xs : List Str} {cs : List Addr} (e : AllEx K mg xs cs) (r : ErrL K cs) (k : ∀ cs, AllEx K mg xs cs → ErrL K cs → p) : p := k cs e r
end
end Dn
set_option Elab.async false
set_option linter.all false
set_option maxRecDepth 100000
set_option maxHeartbeats 2000000
/-! Dn48: x += (..), x a tuple. -/
namespace Dn
open PySem PySem.Spec PyProof.Rows L2 in
theorem noI_tup : typeLookup (.type "tuple") (dunderI "add") = pure none := by
  rw [typeLookup_type, builtinLookup_eq_fast]
  kernel_rfl
open PySem PySem.Spec PyProof.Rows L2 in
theorem iadd_tup {prog : Program} {w : World} {A : Around} {E : Value → Shared → Prop} {s : Shared} {t b : Addr} {vs ws : List Value} {Q : Value → Shared → Prop} (ht : IsTup s.heap t vs.toArray) (hb : IsTup s.heap b ws.toArray) (hv : vs ≠ []) (hw : ws ≠ [])
    (hsz : vs.length + ws.length ≤ sizeLine) (h : Q (.ref s.heap.objs.size) { s with heap := s.heap.push { cls := .type "tuple", data := .seq (vs ++ ws).toArray } }) :
    wpAny (model prog w) A (inplaceOp .Add (.ref t) (.ref b)) Q E s := by
  rcases id ht with ⟨⟨c1, d1, k1, l1⟩, o1, e1, n1, f1⟩
  rcases id hb with ⟨⟨c2, d2, k2, l2⟩, o2, e2, n2, f2⟩
  dsimp only at e1 f1 e2 f2
  subst e1 f1 e2 f2
  refine PySem.wpAny_inplaceOp_concat (T := "tuple") (id := "tuple.__add__") ⟨_, o1, rfl⟩ ⟨_, o2, rfl⟩ noI_tup noFill_tuple_add seq_tuple_add ?_
  refine call_meets PySem.F.slot_tuple_add ⟨_, o1, rfl⟩ PySem.F.entry_tuple_add (PySem.F.args_tuple_add_2 _ _) (PyProof.Rows.tuple_addW2 t b vs.toArray ws.toArray n1 n2 d1 d2 l1 l2 (by simpa using hv) (by simpa using hw) (by rw [List.size_toArray, List.size_toArray]; exact hsz)) ⟨o1, o2, ?_⟩
  rw [show vs.toArray ++ ws.toArray = (vs ++ ws).toArray by simp]
  exact h
open PySem L2
def rTupI (K : PySem.W.Frag) : TIp := fun x y H Q => ∃ a b xs ys, x = .ref a ∧ y = .ref b ∧ SqT K H a xs ∧ SqT K H b ys ∧ xs ≠ [] ∧ ys ≠ [] ∧ xs.length + ys.length ≤ sizeLine ∧ ∀ p, H p = none → Q (.ref p) (upd H p (.tup (xs ++ ys)))
section
variable {X : Cx} {G : Cts} {W : WX}
theorem ip_tup : PIp X .Add (rTupI X.K) := fun pins s σ H x y v u Q I rx ry ⟨a, b, xs, ys, ex, ey, ha, hb, hx, hy, hz, q⟩ => by
  subst ex ey
  cases rx
  cases ry
  obtain ⟨is1, r1, p1, _⟩ := I.tuple ha
  obtain ⟨is2, r2, p2, _⟩ := I.tuple hb
  refine iadd_tup p1 p2 (fun z => hx (r1.nil_iff.mp z)) (fun z => hy (r2.nil_iff.mp z)) (by rw [← r1.length, ← r2.length]; exact hz) ?_
  exact ⟨.ref s.heap.objs.size, _, I.laid (t' := s.toks) (o := .tup (xs ++ ys)) (fun c ob z => Heap.get?_push_of_some _ z) (Nat.le_refl _) ⟨by rw [List.length_append]; exact hz, _, r1.append r2, PyProof.Rows.IsTup.new _ _⟩, rfl, q _ (I.hok.fresh (Nat.le_refl _))⟩
def oAddT : D → D → Option D := fun a b => match a with
  | .tup xs => (match b with
    | .tup ys => if xs ≠ [] ∧ ys ≠ [] ∧ D.imms xs = true ∧ D.imms ys = true ∧ xs.length + ys.length ≤ 1000000 then some (.tup (xs ++ ys)) else none
    | _ => none)
  | _ => none
theorem op2_addT : Op2 G (rTupI G.K) oAddT := by
  intro x y d e H hx hy c hc Q k
  unfold oAddT at hc
  split at hc
  · rename_i xs
    split at hc
    · rename_i ys
      split at hc
      · rename_i h
        obtain ⟨h1, h2, h3, h4, h5⟩ := h
        cases hc
        obtain ⟨a, vs, rfl, s1, p1⟩ := hx
        obtain ⟨b, ws, rfl, s2, p2⟩ := hy
        have l1 := p1.length
        have l2 := p2.length
        refine ⟨a, b, vs, ws, rfl, rfl, s1, s2, fun z => h1 ?_, fun z => h2 ?_, ?_, fun p hp => ?_⟩
        · subst z
          exact List.eq_nil_of_length_eq_zero l1
        · subst z
          exact List.eq_nil_of_length_eq_zero l2
        · rw [← l1, ← l2]
          exact line_big h5
        · have sm : Same H (upd H p (.tup (vs ++ ws))) := same_new hp
          refine k _ _ sm (Fresh.of_imm (av := Nav) ?_ ⟨p, vs ++ ws, rfl, .inl (.inl upd_same), ?_⟩)
          · show D.imms (xs ++ ys) = true
            rw [imms_append, h3, h4]
            rfl
          · exact Reps.same sm (Reps.append p1 p2)
      · cases hc
    · cases hc
  · cases hc
@[simp] theorem oAddT_tup (xs ys : List D) : oAddT (.tup xs) (.tup ys) = if xs ≠ [] ∧ ys ≠ [] ∧ D.imms xs = true ∧ D.imms ys = true ∧ xs.length + ys.length ≤ 1000000 then some (.tup (xs ++ ys)) else none := rfl
end
end Dn
set_option Elab.async false
set_option linter.all false
set_option maxRecDepth 100000
set_option maxHeartbeats 2000000
/-! Dn49: several targets out of a list; x = x + .. of lists of lists. -/
namespace Dn
open PySem L2
section
variable {X : Cx} {G : Cts} {W : WX}
theorem PG.or {tg : Expr} {t u : TG} (h : PG X tg t) (k : PG X tg u) : PG X tg (fun v σ H Q => t v σ H Q ∨ u v σ H Q) := ⟨fun pins s σ H v u Q I r hw => hw.elim (h.run pins s σ H v u Q I r) (k.run pins s σ H v u Q I r)⟩
/-- (a, b, ..) = a tuple or a list -/
def tgU (n : Nat) (t : Tgs) : Tg := fun d ρ => match d with
  | .tup ds => if ds.length = n then t ds ρ else none
  | .lst ds => if ds.length = n then t ds ρ else none
  | _ => none
theorem pg_ofUnp {es : List Expr} {k : Nat} {pos : Pos} {n : Nat} {t : Tgs} (hc : X.calm = true) (h : PGs X es (gSs G t)) (hK : X.K = G.K := by rfl) (hn : (assignEach es X.env).length = n := by rfl) (hst : (assignEach es X.env).findIdx? (·.1) = none := by rfl) :
    PG X (.Tuple es k pos) (gS G (tgU n t)) := ⟨fun pins s σ H v u Q I r hw => (PG.or (pg_tup hc h hn hst) (pg_lst hc h hn hst)).run pins s σ H v u Q I r (by
  obtain ⟨H0, io, fp, fv, ρ, d, J, rp, ρ', e, k⟩ := hw
  cases d with
  | tup ds =>
    obtain ⟨a, vs, ev, s, rs⟩ := rp
    by_cases hl : ds.length = n
    · simp only [tgU, hl, if_true] at e
      rw [hK]
      exact .inl ⟨a, vs, ev, s, rs.length.symm.trans hl, H0, io, fp, fv, ρ, ds, J, rs, ρ', e, k⟩
    · simp only [tgU, hl, if_false] at e
      cases e
  | lst ds =>
    obtain ⟨a, vs, ev, na, s, rs⟩ := rp
    by_cases hl : ds.length = n
    · simp only [tgU, hl, if_true] at e
      rw [hK]
      exact .inr ⟨a, vs, ev, SqL.of s, rs.length.symm.trans hl, H0, io, fp, fv, ρ, ds, J, rs, ρ', e, k⟩
    · simp only [tgU, hl, if_false] at e
      cases e
  | _ => cases e)⟩
theorem tgU_len {n : Nat} {t : Tgs} (h : ∀ {d ρ ρ'}, t d ρ = some ρ' → ρ'.length = ρ.length) {d : D} {ρ ρ' : Rho} (e : tgU n t d ρ = some ρ') : ρ'.length = ρ.length := by
  unfold tgU at e
  split at e
  · split at e
    · exact h e
    · cases e
  · split at e
    · exact h e
    · cases e
  · cases e
@[simp] theorem tgU_lst (n : Nat) (t : Tgs) (ds : List D) (ρ : Rho) : tgU n t (.lst ds) ρ = if ds.length = n then t ds ρ else none := rfl
@[simp] theorem tgU_tup (n : Nat) (t : Tgs) (ds : List D) (ρ : Rho) : tgU n t (.tup ds) ρ = if ds.length = n then t ds ρ else none := rfl
/-- x = x + e, x a slot's own list: its parts go over to the new one -/
def sAddTo (i : Nat) (f : E) : S := fun ρ => match ρ[i]? with
  | some (.own (.lst xs)) => onE (f ρ) ρ fun d m => match d, md d m with
    | .lst ys, .fr => if xs.length + ys.length ≤ 1000000 then .nx (ρ.set i (.own (.lst (xs ++ ys)))) else .bad
    | _, _ => .bad
  | _ => .bad
theorem LSR.reset {fp : Nat → List Addr} {fv : Nat → Option V} {σ : L2.St} {H : Hp} {ρ : Rho} (I : LSR G fp fv σ H ρ) {i : Nat} {s : Sl} {v : V} (hi : i < ρ.length) (hs : SlOk G (Own fp) H (fp i) (some (some v)) (fv i) s) : LSR G fp fv (σ.set i (some v)) H (ρ.set i s) := by
  refine ⟨by rw [List.length_set, List.length_set, I.len], I.nd, I.dj, I.al, fun j t hj => ?_⟩
  by_cases z : j = i
  · subst z
    rw [List.getElem?_set_self (by rw [I.len]; exact hi)]
    rw [List.getElem?_set_self hi] at hj
    cases hj
    exact hs
  · rw [List.getElem?_set_ne (Ne.symm z)]
    rw [List.getElem?_set_ne (Ne.symm z)] at hj
    exact I.sl j t hj
theorem px_addTo {st : Stmt} {i : Nat} {f : E} (h : PS X st (tAsg (tOp rCat (tVar i) (tE G W f)) (gName i))) : PS X st (tS G W (sAddTo i f)) := by
  refine PS.of h fun D' σ H ⟨H0, io, fp, fv, ρ, I, q⟩ => ?_
  unfold sAddTo at q
  cases e : ρ[i]? with
  | none =>
    rw [e] at q
    exact q.elim
  | some s =>
    rw [e] at q
    have r := I.l.sl i s e
    have hi : i < ρ.length := (List.getElem?_eq_some_iff.mp e).1
    cases s with
    | nil => exact q.elim
    | io d => exact q.elim
    | exc _ => exact q.elim
    | shr d => exact q.elim
    | own d0 =>
      cases d0 with
      | lst xs =>
        obtain ⟨v, e1, a, vs, fx, rfl, hf, ha, ot⟩ := r
        refine ⟨_, e1, ?_⟩
        refine tE.st (y := fun r => SK G W H0 io fv D' (onE r ρ _)) I q (fun e h => h) (fun h => h) fun d m q v H1 s1 v1 => ?_
        have v2 := v1.nrm
        cases d with
        | lst ys =>
          cases z : md (.lst ys) m with
          | fr =>
            simp only [onE, z] at q
            rw [z] at v2
            obtain ⟨g, ⟨b, ws, fy, rfl, rfl, hb, ot2⟩, nd2, new2⟩ := v2
            by_cases hl : xs.length + ys.length ≤ 1000000
            · rw [if_pos hl] at q
              have l1 := OTs.length (f := fx) ot
              have l2 := OTs.length (f := fy) ot2
              refine ⟨a, b, vs, ws, rfl, rfl, s1 a _ ha, hb, line_big (by rw [← l1, ← l2]; exact hl), fun p hp => ?_⟩
              have nd1 := I.l.nd i
              rw [hf] at nd1
              obtain ⟨na, nfx⟩ := List.nodup_cons.mp nd1
              obtain ⟨nb, nfy⟩ := List.nodup_cons.mp nd2
              have sm2 : Same H1 (upd H1 p (.lst (vs ++ ws))) := same_new hp
              have sm := s1.trans sm2
              have al : ∀ c ∈ fx, ∃ o, H c = some o := fun c hc => by
                obtain ⟨o, q, _⟩ := OTs.there xs vs fx ot c hc
                exact ⟨o, q⟩
              have pn : H p = none := s1.free hp
              have nd3 : (p :: (fx ++ fy)).Nodup := by
                refine List.nodup_cons.mpr ⟨fun hc => ?_, List.nodup_append.mpr ⟨nfx, nfy, fun c hc d hd z => ?_⟩⟩
                · rcases List.mem_append.mp hc with hc | hc
                  · obtain ⟨o, w⟩ := al p hc
                    rw [pn] at w
                    cases w
                  · obtain ⟨o, w, _⟩ := OTs.there ys ws fy ot2 p hc
                    rw [hp] at w
                    cases w
                · subst z
                  obtain ⟨o, w⟩ := al c hc
                  rw [new2 c (List.mem_cons_of_mem _ hd)] at w
                  cases w
              have src : ∀ c ∈ p :: (fx ++ fy), c ∈ fp i ∨ H c = none := fun c hc => by
                rcases List.mem_cons.mp hc with rfl | hc
                · exact .inr pn
                · rcases List.mem_append.mp hc with hc | hc
                  · exact .inl (by rw [hf]; exact List.mem_cons_of_mem _ hc)
                  · exact .inr (new2 c (List.mem_cons_of_mem _ hc))
              have ot3 : OTs G (upd H1 p (.lst (vs ++ ws))) (xs ++ ys) (vs ++ ws) (fx ++ fy) := OTs.append (OTs.same sm ot) (OTs.same sm2 ot2)
              have there : ∀ c ∈ p :: (fx ++ fy), ∃ o, upd H1 p (.lst (vs ++ ws)) c = some o := fun c hc => by
                rcases List.mem_cons.mp hc with rfl | hc
                · exact ⟨_, upd_same⟩
                · obtain ⟨o, w, _⟩ := OTs.there _ _ _ ot3 c hc
                  exact ⟨o, w⟩
              have J := I.mut (s := .nil) hi (fun c o _ hc => sm c o hc) (tk_same sm) nd3 src there trivial
              have K := J.l.reset (i := i) (v := .ref p) (s := .own (.lst (xs ++ ys))) (by rw [List.length_set]; exact hi) (by
                rw [upF_same]
                exact ⟨_, rfl, p, vs ++ ws, fx ++ fy, rfl, rfl, upd_same, ot3⟩)
              rw [List.set_set] at K
              exact q _ _ _ ⟨K, J.keep, J.tk, J.src⟩
            · rw [if_neg hl] at q
              exact q.elim
          | sh =>
            simp only [onE, z] at q
            exact q.elim
          | tr =>
            simp only [onE, z] at q
            exact q.elim
        | _ =>
          simp only [onE] at q
          exact q.elim
      | _ => exact q.elim
end
def addTo (i : Nat) (ρ : Rho) (xs : List D) (d : D) (m : Md) : SO := match d, m with
  | .lst ys, .fr => if xs.length + ys.length ≤ 1000000 then .nx (ρ.set i (.own (.lst (xs ++ ys)))) else .bad
  | _, _ => .bad
theorem sAddTo_own {i : Nat} {f : E} {ρ : Rho} {xs ys : List D} {m : Md} (h : ρ[i]? = some (.own (.lst xs))) (hf : f ρ = .ok (.lst ys, m)) (hm : md (.lst ys) m = .fr) (hl : xs.length + ys.length ≤ 1000000) : sAddTo i f ρ = .nx (ρ.set i (.own (.lst (xs ++ ys)))) := by
  unfold sAddTo
  rw [h]
  simp only [hf, onE, hm, if_pos hl]
end Dn
set_option Elab.async false
set_option linter.all false
set_option maxRecDepth 100000
set_option maxHeartbeats 2000000
/-! Dn50: a text so many times. -/
namespace Dn
open PySem L2
def repS (a : Str) (n : Nat) : Str := ⟨(List.replicate n a.cps).foldl (· ++ ·) #[]⟩
theorem foldl_app (a : Array Nat) : ∀ (n : Nat) (z : Array Nat), (List.replicate n a).foldl (· ++ ·) z = z ++ ((List.replicate n a.toList).flatten).toArray
  | 0, z => by simp
  | n + 1, z => by
    rw [List.replicate_succ, List.foldl_cons, foldl_app a n, List.replicate_succ, List.flatten_cons]
    apply Array.ext'
    simp
theorem repS_len (a : Str) (n : Nat) : (repS a n).length = a.length * n := by
  unfold repS Str.length
  rw [foldl_app]
  simp [List.length_flatten, Nat.mul_comm]
theorem repS_tx (c n : Nat) : repS (tx [c]) n = tx (List.replicate n c) := by
  unfold repS
  rw [foldl_app]
  unfold tx
  congr 1
  apply Array.ext'
  simp
def rMulS : R2 := fun x y H Q => ∃ a k, x = .str a ∧ y = .int k ∧ a.length ≤ 1000 ∧ -1000000 ≤ k ∧ k ≤ 1000 ∧ Q (.str (repS a k.toNat)) H
def oMulS : D → D → Option D := fun a b => match a with
  | .str x => (match b with
    | .int k => if x.length ≤ 1000 ∧ -1000000 ≤ k ∧ k ≤ 1000 then some (.str (repS x k.toNat)) else none
    | _ => none)
  | _ => none
section
variable {X : Cx} {G : Cts}
theorem op_mulS : OpR X (binaryOp .Mult) rMulS := by
  intro pins s σ H x y v u Q I rx ry h
  obtain ⟨a, k, rfl, rfl, h1, h2, h3, q⟩ := h
  obtain ⟨t, rfl⟩ := rx
  obtain ⟨t', rfl⟩ := ry
  have big : ∀ n m : Nat, n ≤ 1000 → m ≤ 1000 → n * m ≤ sizeLine := fun n m hn hm => Nat.le_trans (Nat.mul_le_mul hn hm) (by decide)
  refine P.mul_str ?_ (fun _ _ => ?_) (fun _ _ => ?_) ?_
  · rw [decide_eq_false (by omega), decide_eq_false (by omega)]
    rfl
  · by_cases z : k < 1
    · omega
    · have : (1 : Int) ≤ k := by omega
      have h4 : (1000 : Int) ≤ (2 ^ 63 - 1) / k := Int.le_ediv_of_mul_le (by omega) (by omega)
      omega
  · unfold Builtin.Str.tooLong
    rw [decide_eq_false]
    have := big a.length k.toNat h1 (by omega)
    omega
  · by_cases z : k < 1
    · rw [if_pos z]
      have e : repS a k.toNat = Str.empty := by
        rw [show k.toNat = 0 by omega]
        rfl
      rw [e] at q
      exact ⟨by decide, .str Str.empty, H, I.tok _, ⟨_, rfl⟩, q⟩
    · rw [if_neg z]
      by_cases w : (k == 1 || a.length == 0) = true
      · rw [if_pos w]
        have e : repS a k.toNat = a := by
          have : a = tx a.cps.toList := by unfold tx; simp
          rcases Bool.or_eq_true _ _ ▸ w with w | w
          · have : k = 1 := by simpa using w
            subst this
            unfold repS
            rw [foldl_app]
            simp
          · have hz : a.length = 0 := by simpa using w
            have hl := repS_len a k.toNat
            rw [hz, Nat.zero_mul] at hl
            have e1 : (repS a k.toNat).cps = #[] := Array.eq_empty_of_size_eq_zero hl
            have e2 : a.cps = #[] := Array.eq_empty_of_size_eq_zero hz
            cases a
            unfold repS at e1 ⊢
            simp only at e1 e2
            rw [e1, e2]
        rw [e] at q
        exact ⟨.str a, H, I, ⟨_, rfl⟩, q⟩
      · rw [if_neg w]
        refine ⟨?_, .str (repS a k.toNat), H, I.tok _, ⟨_, rfl⟩, q⟩
        have := repS_len a k.toNat
        have h6 := big a.length k.toNat h1 (by omega)
        rw [← this] at h6
        exact h6
theorem op2_mulS : Op2 G rMulS oMulS := by
  intro x y d e H hx hy c hc Q k
  unfold oMulS at hc
  split at hc
  · rename_i a
    split at hc
    · rename_i j
      split at hc
      · rename_i h
        cases hc
        obtain rfl : x = .str a := hx
        obtain rfl : y = .int j := hy
        exact ⟨a, j, rfl, rfl, h.1, h.2.1, h.2.2, k _ _ (Same.refl H) (Fresh.of_imm (av := Nav) rfl rfl)⟩
      · cases hc
    · cases hc
  · cases hc
end
theorem oMulS_one {c : Nat} {k : Int} (h1 : -1000000 ≤ k) (h2 : k ≤ 1000) : oMulS (.str (tx [c])) (.int k) = some (.str (tx (List.replicate k.toNat c))) := by
  unfold oMulS
  simp only
  rw [if_pos ⟨by rw [tx_len]; simp, h1, h2⟩, repS_tx]
end Dn
set_option Elab.async false
set_option linter.all false
set_option maxRecDepth 100000
set_option maxHeartbeats 2000000
/-! Dn51: texts split, stripped, parted and replaced at one sign, sign by sign. -/
namespace Dn
open PySem L2
def splL (c : Nat) : List Nat → List (List Nat)
  | [] => [[]]
  | a :: r => if a = c then [] :: splL c r else match splL c r with
    | p :: q => (a :: p) :: q
    | [] => [[a]]
theorem splL_ne (c : Nat) : ∀ l, splL c l ≠ []
  | [] => by simp [splL]
  | a :: r => by
    unfold splL
    split
    · simp
    · split <;> simp
theorem splL_none {c : Nat} : ∀ {l : List Nat}, c ∉ l → splL c l = [l]
  | [], _ => rfl
  | a :: r, h => by
    have n : a ≠ c := fun e => h (by rw [e]; exact List.mem_cons_self)
    rw [splL, if_neg n, splL_none (l := r) fun z => h (List.mem_cons_of_mem _ z)]
theorem splL_app {c : Nat} : ∀ {a : List Nat} (r : List Nat), c ∉ a → splL c (a ++ c :: r) = a :: splL c r
  | [], r, _ => by
    show splL c (c :: r) = _
    rw [splL, if_pos rfl]
  | x :: a, r, h => by
    have n : x ≠ c := fun e => h (by rw [e]; exact List.mem_cons_self)
    show splL c (x :: (a ++ c :: r)) = _
    rw [splL, if_neg n, splL_app r fun z => h (List.mem_cons_of_mem _ z)]
theorem tx_toList (l : List Nat) : (tx l).cps.toList = l := by unfold tx; simp
theorem at_one {x : Str} {c k : Nat} : StrLaws.At x (tx [c]) x.length k ↔ x.cps.toList[k]? = some c := by
  have e1 : (tx [c]).cps.toList = [c] := tx_toList [c]
  constructor
  · intro h
    have := StrLaws.at_take h
    rw [e1] at this
    have h2 : ((x.cps.toList.drop k).take 1)[0]? = some c := by rw [show (1 : Nat) = [c].length from rfl, this]; rfl
    rw [List.getElem?_take_of_lt (by decide), List.getElem?_drop] at h2
    exact h2
  · intro h
    refine StrLaws.take_at (by rw [tx_len]; exact Nat.le_refl 1) ?_
    rw [e1]
    have hk := (List.getElem?_eq_some_iff.mp h)
    obtain ⟨hk, he⟩ := hk
    rw [List.drop_eq_getElem_cons hk, he]
    rfl
theorem spl_chain {x : Str} {c : Nat} : ∀ (cuts : List Nat) (a f : Nat), StrLaws.ChainG x (tx [c]) x.length a cuts f → (∀ k, f ≤ k → ¬ StrLaws.At x (tx [c]) x.length k) → a ≤ x.length →
    (StrLaws.partsFrom x 1 a cuts).map (fun s => s.cps.toList) = splL c (x.cps.toList.drop a)
  | [], a, f, h, hn, ha => by
    have e : f = a := h
    subst e
    have ex : x.cps.toList.length = x.length := by simp [Str.length]
    have nc : c ∉ x.cps.toList.drop f := fun m => by
      obtain ⟨i, hi⟩ := List.mem_iff_getElem?.mp m
      rw [List.getElem?_drop] at hi
      exact hn (f + i) (Nat.le_add_right _ _) (at_one.mpr hi)
    rw [splL_none nc]
    show [(Builtin.Str.strSub x f x.length).cps.toList] = _
    rw [StrLaws.strSub_toList, List.take_of_length_le (by rw [List.length_drop]; omega)]
  | k :: r, a, f, h, hn, ha => by
    obtain ⟨hac, hA, hno, hr⟩ := h
    have hb := hA.1
    have l1 : (tx [c]).length = 1 := tx_len [c]
    rw [l1] at hr hb
    have ex : x.cps.toList.length = x.length := by simp [Str.length]
    have ih := spl_chain r (k + 1) f hr hn hb
    have hk := at_one.mp hA
    obtain ⟨hk', he⟩ := List.getElem?_eq_some_iff.mp hk
    have ed : x.cps.toList.drop a = (x.cps.toList.drop a).take (k - a) ++ c :: x.cps.toList.drop (k + 1) := by
      have := (List.take_append_drop (k - a) (x.cps.toList.drop a)).symm
      rw [List.drop_drop, show a + (k - a) = k by omega, List.drop_eq_getElem_cons hk', he] at this
      exact this
    have nc : c ∉ (x.cps.toList.drop a).take (k - a) := fun m => by
      obtain ⟨i, hi⟩ := List.mem_iff_getElem?.mp m
      have il : i < k - a := by
        have := (List.getElem?_eq_some_iff.mp hi).1
        rw [List.length_take] at this
        omega
      rw [List.getElem?_take_of_lt il, List.getElem?_drop] at hi
      exact hno (a + i) (by omega) (by omega) (at_one.mpr hi)
    rw [ed, splL_app _ nc, ← ih]
    show (Builtin.Str.strSub x a k).cps.toList :: _ = _
    rw [StrLaws.strSub_toList]
theorem strKind_pos (x : Str) : ¬ Builtin.Str.strKind x < 1 := by
  unfold Builtin.Str.strKind
  split
  · decide
  · split <;> decide
theorem map_tx (L : List Str) : (L.map (fun s => s.cps.toList)).map tx = L := by
  rw [List.map_map]
  refine (List.map_congr_left fun s _ => ?_).trans (List.map_id L)
  show tx s.cps.toList = s
  unfold tx
  simp
theorem split_tx (l : List Nat) {c : Nat} (hc : c < 256) : Txt.split (tx l) (tx [c]) = (splL c l).map tx := by
  have k1 : Builtin.Str.strKind (tx [c]) = 1 := by
    unfold Builtin.Str.strKind tx
    simp [hc]
  have hl : (tx l).length = l.length := tx_len l
  have hl1 : (tx [c]).length = 1 := tx_len [c]
  unfold Txt.split
  rw [k1, decide_eq_false (strKind_pos (tx l)), Bool.or_false]
  by_cases z : (tx l).length < (tx [c]).length
  · rw [decide_eq_true z, if_pos rfl]
    have : l = [] := List.eq_nil_of_length_eq_zero (by omega)
    subst this
    rfl
  · rw [decide_eq_false z, if_neg Bool.false_ne_true]
    obtain ⟨f, hch, hn⟩ := StrLaws.occ_tight (tx l) (tx [c]) (by omega)
    have h := spl_chain _ 0 f hch hn (Nat.zero_le _)
    rw [List.drop_zero, tx_toList] at h
    rw [← h, map_tx]
    cases e : Builtin.Str.occurrences (tx l) (tx [c]) 0 (tx l).length ((tx l).length + 1) with
    | nil =>
      rw [if_pos (show ([] : List Nat).isEmpty = true from rfl)]
      show _ = [Builtin.Str.strSub (tx l) 0 (tx l).length]
      rw [StrLaws.sub_whole]
    | cons i r =>
      rw [if_neg (show ¬ (i :: r).isEmpty = true from Bool.false_ne_true), hl1, StrLaws.partsBetween_eq]
/-! strip -/
def strpL (cs l : List Nat) : List Nat := (((l.dropWhile fun a => decide (a ∈ cs)).reverse.dropWhile fun a => decide (a ∈ cs))).reverse
theorem contains_tx (cs : List Nat) : (tx cs).cps.contains = fun a => decide (a ∈ cs) := by
  funext a
  unfold tx
  simp
theorem drop_tw {α : Type} (p : α → Bool) : ∀ l : List α, l.drop (l.takeWhile p).length = l.dropWhile p
  | [] => rfl
  | a :: r => by
    rw [List.takeWhile_cons, List.dropWhile_cons]
    split
    · rw [List.length_cons, List.drop_succ_cons, drop_tw p r]
    · rfl
theorem take_tw {α : Type} (p : α → Bool) (l : List α) : l.take (l.length - (l.reverse.takeWhile p).length) = (l.reverse.dropWhile p).reverse := by
  rw [← drop_tw, List.reverse_drop, List.reverse_reverse, List.length_reverse]
theorem strip_tx (l cs : List Nat) : Txt.stripChars (tx l) (tx cs) = tx (strpL cs l) := by
  unfold Txt.stripChars Txt.stripBy
  rw [contains_tx]
  have e : stripped (fun a => decide (a ∈ cs)) true true (tx l) = tx (strpL cs l) := by
    have : ∀ s t : Str, s.cps.toList = t.cps.toList → s = t := fun s t h => by
      cases s
      cases t
      congr 1
      exact Array.ext' h
    refine this _ _ ?_
    unfold stripped
    rw [StrLaws.strSub_toList, tx_toList, tx_toList]
    unfold stripHi stripLo
    rw [tx_toList, tx_len]
    simp only [if_true]
    unfold strpL
    rw [drop_tw, ← take_tw]
    congr 1
    have : (l.dropWhile fun a => decide (a ∈ cs)).length = l.length - (l.takeWhile fun a => decide (a ∈ cs)).length := by rw [← drop_tw, List.length_drop]
    omega
  split
  · rename_i h
    rw [← e]
    unfold stripSame at h
    rw [Bool.and_eq_true, beq_iff_eq, beq_iff_eq] at h
    unfold stripped
    rw [h.2, h.1, StrLaws.sub_whole]
  · exact e
/-! replace of one sign by one -/
theorem replS_one (c d : Nat) : ∀ l : List Nat, StrLaws.replL [c] [d] l = l.map fun a => if a = c then d else a
  | [] => StrLaws.replL_nil
  | a :: r => by
    by_cases h : a = c
    · subst h
      rw [StrLaws.replL_hit (by simp) (by simp), List.map_cons, if_pos rfl]
      show [d] ++ StrLaws.replL [a] [d] r = _
      rw [replS_one a d r]
      rfl
    · rw [StrLaws.replL_miss (by simpa using h), replS_one c d r, List.map_cons, if_neg h]
theorem replace_tx (l : List Nat) (c d : Nat) : Txt.replace (tx l) (tx [c]) (tx [d]) = tx (l.map fun a => if a = c then d else a) := by
  have h := StrLaws.replace_list (x := tx l) (y := tx [c]) (z := tx [d]) (by rw [tx_len]; exact Nat.le_refl 1)
  rw [tx_toList, tx_toList, tx_toList, replS_one] at h
  have : ∀ s t : Str, s.cps.toList = t.cps.toList → s = t := fun s t h => by
    cases s
    cases t
    congr 1
    exact Array.ext' h
  refine this _ _ ?_
  rw [h, tx_toList]
end Dn
set_option Elab.async false
set_option linter.all false
set_option maxRecDepth 100000
set_option maxHeartbeats 2000000
/-! Dn52: a statement that is never reached. -/
namespace Dn
open PySem L2
def sBad : S := fun _ => .bad
theorem px_bad {X : Cx} {G : Cts} {W : WX} {st : Stmt} : PS X st (tS G W sBad) := PS.of ps_never fun D' σ H ⟨H0, io, fp, fv, ρ, I, q⟩ => q
end Dn
set_option Elab.async false
set_option linter.all false
set_option maxRecDepth 100000
set_option maxHeartbeats 2000000
/-! Dn53: return a + x[k] + b, x a slot that owns lists: what its item owns goes with it. -/
namespace Dn
open PySem L2
def sRetCat (i : Nat) (fa fk fb : E) : S := fun ρ => match ρ[i]? with
  | some (.own (.lst ls)) => onE (fa ρ) ρ fun a _ => onE (fk ρ) ρ fun k _ => (match a, ixD (.lst ls) k with
    | .lst xs, some (.lst ms) => if D.imms xs = true ∧ xs.length + ms.length ≤ 1000000 then onE (fb ρ) ρ fun b _ => (match b with
        | .lst ys => if D.imms ys = true ∧ xs.length + ms.length + ys.length ≤ 1000000 then .rt (.lst (xs ++ ms ++ ys)) (ρ.set i .nil) else .bad
        | _ => .bad)
      else .bad
    | _, _ => .bad)
  | _ => .bad
section
variable {X : Cx} {G : Cts} {W : WX}
theorem px_retCat {x : Str} {p pos p1 p2 pos2 : Pos} {a b c : Expr} {i : Nat} {fa kf fc : E} (hv : PE X (.Name x p) (tVar i)) (ha : PE X a (tE G W fa)) (hb : PE X b (tE G W kf)) (hc : PE X c (tE G W fc)) (hK : X.K = G.K := by rfl) (hs : PlainIx b := by exact fun _ _ => rfl) :
    PS X (.Return (some (.BinOp (.BinOp a .Add (.Subscript (.Name x p) b pos) p1) .Add c p2)) pos2) (tS G W (sRetCat i fa kf fc)) := by
  refine PS.of (ps_ret (pe_op op_cat (pe_op op_cat ha (pe_ix ix_seq hv hb hs)) hc)) fun D' σ H ⟨H0, io, fp, fv, ρ, I, q⟩ => ?_
  unfold sRetCat at q
  cases e : ρ[i]? with
  | none =>
    rw [e] at q
    exact q.elim
  | some sl =>
    rw [e] at q
    cases sl with
    | nil => exact q.elim
    | shr d => exact q.elim
    | io d => exact q.elim
    | exc _ => exact q.elim
    | own s =>
      cases s with
      | lst ls =>
        have q : SK G W H0 io fv D' (onE (fa ρ) ρ _) := q
        obtain ⟨v, ev, ot⟩ := I.l.sl i _ e
        have hi : i < ρ.length := (List.getElem?_eq_some_iff.mp e).1
        show tE G W fa σ H _
        refine tE.st (y := fun r => SK G W H0 io fv D' (onE r ρ _)) I q (fun e h => h) (fun h => h) fun d1 m1 q v1 H1 s1 w1 => ?_
        have I1 := I.same s1
        have q : SK G W H0 io fv D' (onE (kf ρ) ρ _) := q
        refine ⟨v, ev, ?_⟩
        refine tE.st (y := fun r => SK G W H0 io fv D' (onE r ρ _)) I1 q (fun e h => h) (fun h => h) fun k m2 q y H2 s2 w2 => ?_
        have I2 := I1.same s2
        have ot2 := OT.same (s1.trans s2) ot
        cases d1 with
        | lst xs =>
          cases hx : ixD (.lst ls) k with
          | none =>
            simp only [onE, hx] at q
            exact q.elim
          | some dm =>
            cases dm with
            | lst ms =>
              simp only [onE, hx] at q
              obtain ⟨u, g, h1, h2, h3⟩ := ixD_ot ot2 w2.tr hx
              obtain ⟨pm, vm, fm, rfl, rfl, hm, otm⟩ := h1
              obtain ⟨pa, va, rfl, _, hpa, ra⟩ := w1.tr
              rw [hK]
              have lm := OTs.length (f := fm) otm
              have la := ra.length
              have nd0 := I.l.nd i
              have nd1 := h2.nodup nd0
              refine (h3 _ ?_).1 rfl
              by_cases big : D.imms xs = true ∧ xs.length + ms.length ≤ 1000000
              · rw [if_pos big] at q
                have q : SK G W H0 io fv D' (onE (fc ρ) ρ _) := q
                refine ⟨pa, pm, va, vm, rfl, rfl, s2 pa _ hpa, hm, line_big (by omega), fun p hp => ?_⟩
                have sm3 : Same H2 (upd H2 p (.lst (va ++ vm))) := same_new hp
                have I3 := I2.same sm3
                refine tE.st (y := fun r => SK G W H0 io fv D' (onE r ρ _)) I3 q (fun e h => h) (fun h => h) fun d3 m3 q w H4 s4 w4 => ?_
                cases d3 with
                | lst ys =>
                  simp only [onE] at q
                  by_cases c : D.imms ys = true ∧ xs.length + ms.length + ys.length ≤ 1000000
                  · rw [if_pos c] at q
                    obtain ⟨pc, vc, rfl, _, hpc, rc⟩ := w4.tr
                    have lc := rc.length
                    refine ⟨p, pc, va ++ vm, vc, rfl, rfl, s4 p _ upd_same, hpc, line_big (by rw [List.length_append]; omega), fun p5 hp5 => ?_⟩
                    have sm5 : Same H4 (upd H4 p5 (.lst (va ++ vm ++ vc))) := same_new hp5
                    have sm25 := (sm3.trans s4).trans sm5
                    have sm := (s1.trans s2).trans sm25
                    have oa : OTs G (upd H4 p5 (.lst (va ++ vm ++ vc))) xs va [] := Reps.own xs va big.1 (ra.same (s2.trans sm25))
                    have oc : OTs G (upd H4 p5 (.lst (va ++ vm ++ vc))) ys vc [] := Reps.own ys vc c.1 (rc.same sm5)
                    have om := OTs.same sm25 otm
                    have oo : OTs G (upd H4 p5 (.lst (va ++ vm ++ vc))) (xs ++ ms ++ ys) (va ++ vm ++ vc) fm := by
                      have := OTs.append (OTs.append oa om) oc
                      rw [List.nil_append, List.append_nil] at this
                      exact this
                    have pn : H p5 = none := (s1.trans (s2.trans (sm3.trans s4))).free hp5
                    have sub : ∀ a ∈ fm, a ∈ fp i := fun a ha => h2.subset (List.mem_cons_of_mem _ ha)
                    have there : ∀ a ∈ fm, ∃ o, H a = some o := fun a ha => I.l.al i a (sub a ha)
                    refine q _ _ ⟨σ, upF fp i [], p5 :: fm, (I.same sm).mut hi (fun _ _ _ h => h) Tk.refl List.nodup_nil (fun _ z => by cases z) (fun _ z => by cases z) trivial, ⟨p5, _, fm, rfl, rfl, upd_same, oo⟩, ?_, fun a ha => ⟨?_, fun j hj => ?_⟩⟩
                    · refine List.nodup_cons.mpr ⟨fun z => ?_, (List.nodup_cons.mp nd1).2⟩
                      obtain ⟨o, h⟩ := there p5 z
                      rw [pn] at h
                      cases h
                    · rcases List.mem_cons.mp ha with rfl | ha
                      · exact I.fresh pn
                      · exact I.src i a (sub a ha)
                    · by_cases z : j = i
                      · subst z
                        rw [upF_same] at hj
                        cases hj
                      · rw [upF_ne z] at hj
                        rcases List.mem_cons.mp ha with rfl | ha
                        · obtain ⟨o, h⟩ := I.l.al j a hj
                          rw [pn] at h
                          cases h
                        · exact I.l.dj i j (Ne.symm z) a (sub a ha) hj
                  · rw [if_neg c] at q
                    exact q.elim
                | _ => exact q.elim
              · rw [if_neg big] at q
                exact q.elim
            | _ =>
              simp only [onE, hx] at q
              exact q.elim
        | _ =>
          simp only [onE] at q
          exact q.elim
      | _ => exact q.elim
end
def retC2 (i : Nat) (ρ : Rho) (xs ms : List D) : D → SO
  | .lst ys => if D.imms ys = true ∧ xs.length + ms.length + ys.length ≤ 1000000 then .rt (.lst (xs ++ ms ++ ys)) (ρ.set i .nil) else .bad
  | _ => .bad
def retC1 (i : Nat) (ρ : Rho) (b : R (D × Md)) (xs : List D) : Option D → SO
  | some (.lst ms) => if D.imms xs = true ∧ xs.length + ms.length ≤ 1000000 then onE b ρ fun b _ => retC2 i ρ xs ms b else .bad
  | _ => .bad
def retC0 (i : Nat) (ρ : Rho) (ls : List D) (k b : R (D × Md)) : D → SO
  | .lst xs => onE k ρ fun k _ => retC1 i ρ b xs (ixD (.lst ls) k)
  | _ => onE k ρ fun _ _ => .bad
def retC (i : Nat) (ρ : Rho) (s : Option Sl) (a k b : R (D × Md)) : SO := match s with
  | some (.own (.lst ls)) => onE a ρ fun a _ => retC0 i ρ ls k b a
  | _ => .bad
@[simp] theorem retC2_lst (i : Nat) (ρ : Rho) (xs ms ys : List D) : retC2 i ρ xs ms (.lst ys) = if D.imms ys = true ∧ xs.length + ms.length + ys.length ≤ 1000000 then .rt (.lst (xs ++ ms ++ ys)) (ρ.set i .nil) else .bad := rfl
@[simp] theorem retC1_lst (i : Nat) (ρ : Rho) (b : R (D × Md)) (xs ms : List D) : retC1 i ρ b xs (some (.lst ms)) = if D.imms xs = true ∧ xs.length + ms.length ≤ 1000000 then onE b ρ fun b _ => retC2 i ρ xs ms b else .bad := rfl
@[simp] theorem retC0_lst (i : Nat) (ρ : Rho) (ls : List D) (k b : R (D × Md)) (xs : List D) : retC0 i ρ ls k b (.lst xs) = onE k ρ fun k _ => retC1 i ρ b xs (ixD (.lst ls) k) := rfl
@[simp] theorem retC_own (i : Nat) (ρ : Rho) (ls : List D) (a k b : R (D × Md)) : retC i ρ (some (.own (.lst ls))) a k b = onE a ρ fun a _ => retC0 i ρ ls k b a := rfl
@[simp] theorem sRetCat_eq (i : Nat) (fa fk fb : E) (ρ : Rho) : sRetCat i fa fk fb ρ = retC i ρ ρ[i]? (fa ρ) (fk ρ) (fb ρ) := by
  unfold sRetCat retC
  cases ρ[i]? with
  | none => rfl
  | some s =>
    cases s with
    | own d =>
      cases d with
      | lst ls =>
        show onE (fa ρ) ρ _ = onE (fa ρ) ρ _
        congr 1
        funext a m
        cases a with
        | lst xs =>
          show onE (fk ρ) ρ _ = onE (fk ρ) ρ _
          congr 1
          funext k m2
          cases ixD (.lst ls) k with
          | none => rfl
          | some d =>
            cases d with
            | lst ms =>
              show (if _ then onE (fb ρ) ρ _ else _) = if _ then onE (fb ρ) ρ _ else _
              congr 2
            | _ => rfl
        | _ =>
          show onE (fk ρ) ρ _ = onE (fk ρ) ρ _
          congr 1
      | _ => rfl
    | _ => rfl
def addToM (i : Nat) (ρ : Rho) (xs ys : List D) : Md → SO
  | .fr => if xs.length + ys.length ≤ 1000000 then .nx (ρ.set i (.own (.lst (xs ++ ys)))) else .bad
  | _ => .bad
def addToS (i : Nat) (ρ : Rho) (s : Option Sl) (b : R (D × Md)) : SO := match s with
  | some (.own (.lst xs)) => onE b ρ fun d m => (match d with
    | .lst ys => addToM i ρ xs ys (md (.lst ys) m)
    | _ => .bad)
  | _ => .bad
@[simp] theorem sAddTo_simp (i : Nat) (f : E) (ρ : Rho) : sAddTo i f ρ = addToS i ρ ρ[i]? (f ρ) := by
  unfold sAddTo addToS
  cases ρ[i]? with
  | none => rfl
  | some s =>
    cases s with
    | own d =>
      cases d with
      | lst xs =>
        show onE (f ρ) ρ _ = onE (f ρ) ρ _
        congr 1
        funext d m
        cases d with
        | lst ys =>
          show _ = addToM i ρ xs ys (md (.lst ys) m)
          cases md (.lst ys) m <;> rfl
        | _ => rfl
      | _ => rfl
    | _ => rfl
@[simp] theorem addToS_ok (i : Nat) (ρ : Rho) (xs ys : List D) (m : Md) : addToS i ρ (some (.own (.lst xs))) (.ok (.lst ys, m)) = addToM i ρ xs ys (md (.lst ys) m) := rfl
@[simp] theorem addToM_fr (i : Nat) (ρ : Rho) (xs ys : List D) : addToM i ρ xs ys .fr = if xs.length + ys.length ≤ 1000000 then .nx (ρ.set i (.own (.lst (xs ++ ys)))) else .bad := rfl
end Dn
set_option Elab.async false
set_option linter.all false
set_option maxRecDepth 100000
set_option maxHeartbeats 2000000
/-! Dn54: isinstance with two types; what is never reached, as an expression. -/
namespace Dn
open PySem L2
def eBad : E := fun _ => .bad
theorem px_eBad {X : Cx} {G : Cts} {W : WX} {e : Expr} : PE X e (tE G W eBad) := ⟨fun pins s σ H Q I ⟨fp, fv, ρ, J, q⟩ => q.elim⟩
@[simp] theorem eBad_eq (ρ : Rho) : eBad ρ = .bad := rfl
def oIsi2 (n1 n2 : String) (d : D) : Option D := d.kind.bind fun k => (isiT k n1).bind fun b1 => (isiT k n2).map fun b2 => .bl (b1 || b2)
def eIsi2 (n1 n2 : String) (f : E) : E := fun ρ => (f ρ).bind fun a => (R.opt (oIsi2 n1 n2 a.1)).bind fun c => .ok (c, .fr)
section
variable {X : Cx} {G : Cts} {W : WX}
theorem px_isi2 {x1 x2 : Str} {n1 n2 : String} {p p1 p2 q pos : Pos} {k : Nat} {a : Expr} {f : E} (hg : Gl X "isinstance") (hm : X.mg "isinstance" = none) (hg1 : Gl X x1) (hm1 : X.mg x1 = none) (hv1 : bootBuiltins x1 = some (.type n1)) (hg2 : Gl X x2) (hm2 : X.mg x2 = none) (hv2 : bootBuiltins x2 = some (.type n2)) (h : PE X a (tE G W f)) (hK : X.K = G.K := by rfl)
    (h1 : x1 ≠ "__name__" := by decide) (h1' : (x1 == ("__debug__" : Str)) = false := by decide) (h2 : x2 ≠ "__name__" := by decide) (h2' : (x2 == ("__debug__" : Str)) = false := by decide)
    (he : starEach [a, .Tuple [.Name x1 p1, .Name x2 p2] k q] X.env = (false, eval a X.env) :: starEach [.Tuple [.Name x1 p1, .Name x2 p2] k q] X.env := by rfl) :
    PE X (.Call (.Name "isinstance" p) [a, .Tuple [.Name x1 p1, .Name x2 p2] k q] [] pos) (tE G W (eIsi2 n1 n2 f)) := by
  refine PE.of (pe_callB call_isiT hg hm (by decide +kernel) (pa_cons h (pa_cons (pe_tup (pa_cons (pe_bltn hg1 hm1 hv1 (v := .ty n1) rfl h1 h1') (pa_cons (pe_bltn hg2 hm2 hv2 (v := .ty n2) rfl h2 h2') pa_nil))) pa_nil) he) (he := he)) fun σ H Q ⟨fp, fv, ρ, I, q⟩ => ?_
  unfold eIsi2 at q
  refine tE.of_bind (y := yE G W fp σ H Q) I q (fun e h => h) (fun h => h) fun d m q v H1 e1 v1 => ?_
  replace q : yE G W fp σ H Q ((R.opt (oIsi2 n1 n2 d)).bind fun c => .ok (c, .fr)) := q
  unfold oIsi2 at q
  cases z : d.kind with
  | none =>
    rw [z] at q
    exact q.elim
  | some t =>
    cases z1 : isiT t n1 with
    | none =>
      simp only [z, Option.bind_some, z1, Option.bind_none] at q
      exact q.elim
    | some b1 =>
      cases z2 : isiT t n2 with
      | none =>
        simp only [z, Option.bind_some, z1, z2, Option.map_none] at q
        exact q.elim
      | some b2 =>
        simp only [z, Option.bind_some, z1, z2, Option.map_some] at q
        refine ⟨(show (2 : Nat) ≤ sizeLine by decide), fun a ha => ?_⟩
        have e2 : Same H1 (upd H1 a (.tup [.ty n1, .ty n2])) := same_new ha
        refine ⟨v, a, [.ty n1, .ty n2], .type t, [.type n1, .type n2], b1 || b2, rfl, upd_same, .cons (.ty n1) (.cons (.ty n2) .nil), ?_, ?_, ?_⟩
        · rw [hK]
          exact D.tyX (v1.tr.same e2) z
        · refine kitAny_cons (kit_ty (isiT_kit z1)) (fun hb => ?_) (fun hb => by rw [hb]; rfl)
          refine kitAny_cons (kit_ty (isiT_kit z2)) (fun hb2 => ?_) (fun hb2 => by rw [hb, hb2]; rfl)
          rw [hb, hb2]
          rfl
        · exact q _ _ (e1.trans e2) Fresh.bl
end
@[simp] theorem eIsi2_eq (n1 n2 : String) (f : E) (ρ : Rho) : eIsi2 n1 n2 f ρ = (f ρ).bind fun a => (R.opt (oIsi2 n1 n2 a.1)).bind fun c => .ok (c, .fr) := rfl
@[simp] theorem isi2_int (i : Int) : oIsi2 "tuple" "list" (.int i) = some (.bl false) := rfl
@[simp] theorem isi2_str (i : Str) : oIsi2 "tuple" "list" (.str i) = some (.bl false) := rfl
@[simp] theorem isi2_tup (i : List D) : oIsi2 "tuple" "list" (.tup i) = some (.bl true) := rfl
@[simp] theorem isi2_lst (i : List D) : oIsi2 "tuple" "list" (.lst i) = some (.bl true) := rfl
@[simp] theorem isi2_bl (i : Bool) : oIsi2 "tuple" "list" (.bl i) = some (.bl false) := rfl
@[simp] theorem isi2_non : oIsi2 "tuple" "list" .non = some (.bl false) := rfl
end Dn
set_option Elab.async false
set_option linter.all false
set_option maxRecDepth 100000
set_option maxHeartbeats 2000000
/-! Dn55: walks of a dict that a slot owns: its keys, its pairs. -/
namespace Dn
open PySem L2
section
variable {G : Cts} {av : Addr → Prop} {H : Hp} {a : Addr} {kvs : List (Key × V)} {o' : HO}
/-- a dict locked or unlocked: no other thing stands there -/
def DkO (kvs : List (Key × V)) (o' : HO) : Prop := o' = .dK kvs ∨ ∃ od, o' = .frz od (.dK kvs)
theorem DkO.ne {u : HO} (h : DkO kvs u) : (∀ xs, u ≠ .lst xs) ∧ (∀ xs, u ≠ .tup xs) ∧ (∀ c dx fs, u ≠ .ins c dx fs) ∧ (∀ o xs, u ≠ .frz o (.lst xs)) ∧ (∀ o xs, u ≠ .frz o (.tup xs)) := by
  rcases h with rfl | ⟨od, rfl⟩
  · exact ⟨fun _ z => (nomatch z), fun _ z => (nomatch z), fun _ _ _ z => (nomatch z), fun _ _ z => (nomatch z), fun _ _ z => (nomatch z)⟩
  · exact ⟨fun _ z => (nomatch z), fun _ z => (nomatch z), fun _ _ _ z => (nomatch z), fun _ _ z => (nomatch z), fun _ _ z => (nomatch z)⟩
theorem chg_sqT {u : HO} (hu : H a = some u) (du : DkO kvs u) {b : Addr} {vs : List V} (h : SqT G.K H b vs) : SqT G.K (upd H a o') b vs := by
  rcases h with h | h
  · refine .inl ?_
    have n : b ≠ a := fun z => by
      subst z
      rcases h with h | ⟨o, h⟩
      · rw [hu] at h
        exact du.ne.2.1 _ (Option.some.inj h)
      · rw [hu] at h
        exact du.ne.2.2.2.2 _ _ (Option.some.inj h)
    rcases h with h | ⟨o, h⟩
    · exact .inl (by rw [upd_ne n]; exact h)
    · exact .inr ⟨o, by rw [upd_ne n]; exact h⟩
  · exact .inr h
theorem chg_scr {u : HO} (hu : H a = some u) (du : DkO kvs u) {b : Addr} {vs : List V} (h : ScrL G.K H b vs) : ScrL G.K (upd H a o') b vs := by
  rcases h with ⟨o, h⟩ | h
  · have n : b ≠ a := fun z => by
      subst z
      rw [hu] at h
      exact du.ne.2.2.2.1 _ _ (Option.some.inj h)
    exact .inl ⟨o, by rw [upd_ne n]; exact h⟩
  · exact .inr h
theorem chg_rd {u : HO} (hu : H a = some u) (du : DkO kvs u) (d2 : DkO kvs o') {b : Addr} {ks : List (Key × V)} (h : Rd H b (.dK ks)) : Rd (upd H a o') b (.dK ks) := by
  by_cases n : b = a
  · subst n
    have e : ks = kvs := by
      rcases h with h | ⟨o, h⟩ <;> rw [hu] at h <;> rcases du with rfl | ⟨od, rfl⟩ <;> first | (cases h; rfl) | cases h
    subst e
    rcases d2 with rfl | ⟨od, rfl⟩
    · exact .inl upd_same
    · exact .inr ⟨od, upd_same⟩
  · rcases h with h | ⟨o, h⟩
    · exact .inl (by rw [upd_ne n]; exact h)
    · exact .inr ⟨o, by rw [upd_ne n]; exact h⟩
mutual
theorem Rep.chg {u : HO} (hu : H a = some u) (du : DkO kvs u) (d2 : DkO kvs o') : ∀ (d : D) (v : V), Rep G av H d v → Rep G av (upd H a o') d v
  | .non, v, h => h
  | .bl _, v, h => h
  | .int _, v, h => h
  | .str _, v, h => h
  | .tup ds, v, h => by
    obtain ⟨b, vs, e, s, r⟩ := h
    exact ⟨b, vs, e, chg_sqT hu du s, Reps.chg hu du d2 ds vs r⟩
  | .lst ds, v, h => by
    obtain ⟨b, vs, e, n, s, r⟩ := h
    have nb : b ≠ a := fun z => by
      subst z
      rw [hu] at s
      exact du.ne.1 _ (Option.some.inj s)
    exact ⟨b, vs, e, n, by rw [upd_ne nb]; exact s, Reps.chg hu du d2 ds vs r⟩
  | .dct ks ds, v, h => by
    obtain ⟨b, kvs', e, n, s, q, r⟩ := h
    exact ⟨b, kvs', e, n, chg_rd hu du d2 s, q, Reps.chg hu du d2 ds _ r⟩
  | .obj c ns ds, v, h => by
    obtain ⟨b, dx, fs, e, n, s, q, r⟩ := h
    have nb : b ≠ a := fun z => by
      subst z
      rw [hu] at s
      exact du.ne.2.2.1 _ _ _ (Option.some.inj s)
    exact ⟨b, dx, fs, e, n, by rw [upd_ne nb]; exact s, q, Reps.chg hu du d2 ds _ r⟩
  | .scr ns, v, h => by
    obtain ⟨b, e, s⟩ := h
    exact ⟨b, e, chg_scr hu du s⟩
  | .ty n, v, h => h
  | .cls c, v, h => h
theorem Reps.chg {u : HO} (hu : H a = some u) (du : DkO kvs u) (d2 : DkO kvs o') : ∀ (ds : List D) (vs : List V), Reps G av H ds vs → Reps G av (upd H a o') ds vs
  | [], vs, h => h
  | d :: ds, vs, h => by
    obtain ⟨v, r, e, h1, h2⟩ := h
    exact ⟨v, r, e, Rep.chg hu du d2 d v h1, Reps.chg hu du d2 ds r h2⟩
end
mutual
/-- what is owned stands elsewhere -/
theorem OT.chg {od : Obj} (hu : H a = some (.frz od (.dK kvs))) : ∀ (d : D) (v : V) (f : List Addr), OT G H d v f → OT G (upd H a o') d v f
  | .non, v, f, h => h
  | .bl _, v, f, h => h
  | .int _, v, f, h => h
  | .str _, v, f, h => h
  | .tup ds, v, f, h => by
    obtain ⟨b, vs, e, s, r⟩ := h
    exact ⟨b, vs, e, chg_sqT hu (.inr ⟨od, rfl⟩) s, OTs.chg hu ds vs f r⟩
  | .lst ds, v, f, h => by
    obtain ⟨b, vs, g, e, ef, s, r⟩ := h
    have nb : b ≠ a := fun z => by
      subst z
      rw [hu] at s
      cases s
    exact ⟨b, vs, g, e, ef, by rw [upd_ne nb]; exact s, OTs.chg hu ds vs g r⟩
  | .dct ks ds, v, f, h => by
    obtain ⟨b, kvs', g, e, ef, s, q, r⟩ := h
    have nb : b ≠ a := fun z => by
      subst z
      rw [hu] at s
      cases s
    exact ⟨b, kvs', g, e, ef, by rw [upd_ne nb]; exact s, q, OTs.chg hu ds _ g r⟩
  | .obj c ns ds, v, f, h => by
    obtain ⟨b, dx, fs, g, e, ef, s, q, r⟩ := h
    have nb : b ≠ a := fun z => by
      subst z
      rw [hu] at s
      cases s
    exact ⟨b, dx, fs, g, e, ef, by rw [upd_ne nb]; exact s, q, OTs.chg hu ds _ g r⟩
  | .scr ns, v, f, h => by
    obtain ⟨⟨b, e, s⟩, ef⟩ := h
    exact ⟨⟨b, e, chg_scr hu (.inr ⟨od, rfl⟩) s⟩, ef⟩
  | .ty n, v, f, h => h
  | .cls c, v, f, h => h
theorem OTs.chg {od : Obj} (hu : H a = some (.frz od (.dK kvs))) : ∀ (ds : List D) (vs : List V) (f : List Addr), OTs G H ds vs f → OTs G (upd H a o') ds vs f
  | [], vs, f, h => h
  | d :: ds, vs, f, h => by
    obtain ⟨v, r, f1, f2, e, ef, h1, h2⟩ := h
    exact ⟨v, r, f1, f2, e, ef, OT.chg hu d v f1 h1, OTs.chg hu ds r f2 h2⟩
end
theorem LSR.unlock {fp : Nat → List Addr} {fv : Nat → Option V} {σ : L2.St} {ρ : Rho} {od : Obj} (hu : H a = some (.frz od (.dK kvs))) (I : LSR G fp fv σ H ρ) : LSR G fp fv σ (upd H a (.dK kvs)) ρ := by
  refine ⟨I.len, I.nd, I.dj, fun i b hb => ?_, fun i s hs => ?_⟩
  · by_cases n : b = a
    · subst n
      exact ⟨_, upd_same⟩
    · rw [upd_ne n]
      exact I.al i b hb
  · have r := I.sl i s hs
    cases s with
    | nil => trivial
    | shr d =>
      obtain ⟨v, e, r⟩ := r
      exact ⟨v, e, Rep.chg hu (.inr ⟨od, rfl⟩) (.inl rfl) d v r⟩
    | own d =>
      obtain ⟨v, e, r⟩ := r
      exact ⟨v, e, OT.chg hu d v _ r⟩
    | io d =>
      obtain ⟨v, e, e2, r⟩ := r
      exact ⟨v, e, e2, OT.chg hu d v _ r⟩
    | exc e => exact r
theorem FSR.unlock {H0 : Hp} {io : Addr → Prop} {fp : Nat → List Addr} {fv : Nat → Option V} {σ : L2.St} {ρ : Rho} {od : Obj} (hu : H a = some (.frz od (.dK kvs))) (src : io a ∨ H0 a = none) (I : FSR G H0 io fp fv σ H ρ) : FSR G H0 io fp fv σ (upd H a (.dK kvs)) ρ := by
  refine ⟨I.l.unlock hu, fun b o n h => ?_, I.tk.trans ⟨fun b xs h => chg_sqT hu (.inr ⟨od, rfl⟩) h, fun b xs h => chg_scr hu (.inr ⟨od, rfl⟩) h⟩, I.src⟩
  have nb : b ≠ a := fun z => by
    subst z
    rcases src with z | z
    · exact n z
    · rw [h] at z
      cases z
  rw [upd_ne nb]
  exact I.keep b o n h
end
/-- the walk of a dict that a slot owns: it is looked on as shared from then on -/
def sForD (i : Nat) (wk : List Key → List D → List D) (st : Tg) (body : S) : S := fun ρ => match ρ[i]? with
  | some (.own (.dct ks ds)) => forL st body (wk ks ds) (ρ.set i (.shr (.dct ks ds)))
  | _ => .bad
def wkKeys (ks : List Key) (_ : List D) : List D := ks.map keyD
def wkItems (ks : List Key) (ds : List D) : List D := List.zipWith (fun k d => .tup [keyD k, d]) ks ds
section
variable {X : Cx} {G : Cts} {W : WX}
/-- ends behind a lock -/
def lockD (a : Addr) (od : Obj) (u : HO) (D : Ends) : Ends := ⟨fun σ' H' => H' a = some (.frz od u) ∧ D.nx σ' (upd H' a u), fun v H' => H' a = some (.frz od u) ∧ D.rt v (upd H' a u), fun σ' H' => H' a = some (.frz od u) ∧ D.bk σ' (upd H' a u), fun σ' H' => H' a = some (.frz od u) ∧ D.ct σ' (upd H' a u)⟩
theorem SK.lock {H0 H1 : Hp} {io : Addr → Prop} {fp : Nat → List Addr} {fv : Nat → Option V} {σ : L2.St} {ρ : Rho} {a : Addr} {od : Obj} {kvs : List (Key × V)} {D' : Ends} (I : FSR G H0 io fp fv σ H1 ρ) (hu : H1 a = some (.frz od (.dK kvs))) (na : ¬ Own fp a) (src : io a ∨ H0 a = none) :
    ∀ {o : SO}, SK G W H0 io fv D' o → SK G W H1 (Own fp) fv (lockD a od (.dK kvs) D') o
  | .nx ρ, q => fun σ H f J => ⟨J.keep a _ na hu, q σ _ f (FSR.unlock (J.keep a _ na hu) src (I.trans (Same.refl _) J))⟩
  | .ct ρ, q => fun σ H f J => ⟨J.keep a _ na hu, q σ _ f (FSR.unlock (J.keep a _ na hu) src (I.trans (Same.refl _) J))⟩
  | .bk ρ, q => fun σ H f J => ⟨J.keep a _ na hu, q σ _ f (FSR.unlock (J.keep a _ na hu) src (I.trans (Same.refl _) J))⟩
  | .rt d ρ, q => fun v H ⟨σ, f, g, J, o, nd, s⟩ => ⟨J.keep a _ na hu, q v _ ⟨σ, f, g, FSR.unlock (J.keep a _ na hu) src (I.trans (Same.refl _) J), OT.chg (J.keep a _ na hu) d v g o, nd, fun b hb => ⟨by
      rcases (s b hb).1 with ⟨j, hj⟩ | z
      · exact I.src j b hj
      · exact I.fresh z, (s b hb).2⟩⟩⟩
  | .ex e ρ, q => fun σ H f J => q σ H f (I.trans (Same.refl _) J)
  | .bad, q => q
theorem forD_lock {H0 H : Hp} {io : Addr → Prop} {fp : Nat → List Addr} {fv : Nat → Option V} {σ : L2.St} {ρ : Rho} {i : Nat} {ks : List Key} {ds xs : List D} {D' : Ends} {st : Tg} {f : S} (I : FSR G H0 io fp fv σ H ρ) (e : ρ[i]? = some (.own (.dct ks ds))) (q : SK G W H0 io fv D' (forL st f xs (ρ.set i (.shr (.dct ks ds))))) :
    ∃ a kvs, σ[i]? = some (some (.ref a)) ∧ H a = some (.dK kvs) ∧ kvs.map (·.1) = ks ∧ ∀ od, ∃ fp', ¬ Own fp' a ∧ Reps G (Own fp') (upd H a (.frz od (.dK kvs))) ds (kvs.map (·.2)) ∧
      ∀ J, Wk G (Own fp') J (upd H a (.frz od (.dK kvs))) xs → ∃ Z : Nat → Nat → L2.St → Hp → Prop, (∃ m, Z 0 m σ (upd H a (.frz od (.dK kvs)))) ∧ ∀ i m σ H, Z i m σ H → (J.stop i H ∧ (lockD a od (.dK kvs) D').nx σ H) ∨ (J.go i H ∧ ∃ N : L2.St → Hp → Prop, (∀ σ' H', N σ' H' → ∃ m', m' < m ∧ Z (i + 1) m' σ' H') ∧ ∀ x H', J.yld i H x H' → gS G st x σ H' fun σ2 H2 => tS G W f { lockD a od (.dK kvs) D' with nx := N, ct := N, bk := (lockD a od (.dK kvs) D').nx } σ2 H2) := by
  obtain ⟨v, hσ, a, kvs, g, rfl, hf, ha, hk, ot⟩ := I.l.sl i _ e
  have hi : i < ρ.length := (List.getElem?_eq_some_iff.mp e).1
  refine ⟨a, kvs, hσ, ha, hk, fun od => ?_⟩
  have hain : a ∈ fp i := by rw [hf]; exact List.mem_cons_self
  have nown : ¬ Own (upF fp i []) a := fun ⟨j, hj⟩ => by
    by_cases z : j = i
    · subst z
      rw [upF_same] at hj
      cases hj
    · rw [upF_ne z] at hj
      exact I.l.dj j i z a hj hain
  have du : DkO kvs (HO.dK kvs) := .inl rfl
  have d2 : DkO kvs (HO.frz od (HO.dK kvs)) := .inr ⟨od, rfl⟩
  have nfp : ∀ b ∈ fp i, ¬ Own (upF fp i []) b := fun b hb ⟨j, hj⟩ => by
    by_cases z : j = i
    · subst z
      rw [upF_same] at hj
      cases hj
    · rw [upF_ne z] at hj
      exact I.l.dj j i z b hj hb
  have rs : Reps G (Own (upF fp i [])) H ds (kvs.map (·.2)) := OTs.rep ds _ g (fun b hb => nfp b (by rw [hf]; exact List.mem_cons_of_mem _ hb)) ot
  have rs1 : Reps G (Own (upF fp i [])) (upd H a (.frz od (.dK kvs))) ds (kvs.map (·.2)) := Reps.chg ha du d2 _ _ rs
  have J : FSR G H0 io (upF fp i []) fv σ (upd H a (.frz od (.dK kvs))) (ρ.set i (.shr (.dct ks ds))) :=
    I.mut hi (fun b o nb hb => by rw [upd_ne (show b ≠ a from fun z => nb (by rw [z]; exact hain))]; exact hb) ⟨fun b xs h => chg_sqT ha du h, fun b xs h => chg_scr ha du h⟩ List.nodup_nil (fun _ z => by cases z) (fun _ z => by cases z) ⟨_, hσ, a, kvs, rfl, nown, .inr ⟨od, upd_same⟩, hk, rs1⟩
  refine ⟨upF fp i [], nown, rs1, fun K wk => ?_⟩
  exact for_wk (FSR.here J.l) (Same.refl _) wk (SK.lock J upd_same nown (I.src i a hain) q)
theorem rep_key {av : Addr → Prop} {H : Hp} (k : Key) : Rep G av H (keyD k) (kV k) := by
  cases k <;> rfl
theorem wk_keys {av : Addr → Prop} {H1 : Hp} {a : Addr} {od : Obj} {kvs : List (Key × V)} {ds : List D} (hu : H1 a = some (.frz od (.dK kvs))) (na : ¬ av a) : Wk G av (Itk a od kvs) H1 (wkKeys (kvs.map (·.1)) ds) := by
  intro H k t i
  have h := k a _ na hu
  have hl : (wkKeys (kvs.map (·.1)) ds).length = kvs.length := by unfold wkKeys; rw [List.length_map, List.length_map]
  refine ⟨fun d hd => ?_, fun e => ⟨h, by omega⟩⟩
  have hi : i < kvs.length := by rw [← hl]; exact (List.getElem?_eq_some_iff.mp hd).1
  refine ⟨⟨h, hi⟩, fun x H' y => ?_⟩
  obtain ⟨rfl, k0, v0, hk, rfl⟩ := y
  unfold wkKeys at hd
  rw [List.getElem?_map, List.getElem?_map, hk] at hd
  cases hd
  exact ⟨Same.refl _, fun av' _ => rep_key k0⟩
theorem wk_itemsD {av : Addr → Prop} {H1 : Hp} {a : Addr} {od : Obj} {kvs : List (Key × V)} {ds : List D} (hu : H1 a = some (.frz od (.dK kvs))) (na : ¬ av a) (rs : Reps G av H1 ds (kvs.map (·.2))) : Wk G av (Iti a od kvs) H1 (wkItems (kvs.map (·.1)) ds) := by
  intro H k t i
  have h := k a _ na hu
  have le := rs.length
  have hl : (wkItems (kvs.map (·.1)) ds).length = kvs.length := by unfold wkItems; rw [List.length_zipWith, List.length_map, le, List.length_map, Nat.min_self]
  refine ⟨fun d hd => ?_, fun e => ⟨h, by omega⟩⟩
  have hi : i < kvs.length := by rw [← hl]; exact (List.getElem?_eq_some_iff.mp hd).1
  refine ⟨⟨h, hi⟩, fun x H' y => ?_⟩
  obtain ⟨T, k0, v0, hk, rfl, hT, rfl⟩ := y
  have hd0 : i < ds.length := by rw [le, List.length_map]; exact hi
  obtain ⟨w, hw, rw0⟩ := rs.get (List.getElem?_eq_getElem hd0)
  rw [List.getElem?_map, hk] at hw
  cases hw
  unfold wkItems at hd
  rw [List.getElem?_zipWith, List.getElem?_map, hk, List.getElem?_eq_getElem hd0] at hd
  cases hd
  have sm : Same H (upd H T (.tup [kV k0, v0])) := same_new hT
  exact ⟨sm, fun av' k' => ⟨T, _, rfl, SqT.of upd_same, _, _, rfl, rep_key k0, _, _, rfl, (Rep.wk k t k' rw0).same sm, rfl⟩⟩
theorem px_forK {i : Nat} {x : Str} {p pos : Pos} {tg : Expr} {body : List Stmt} {st : Tg} {f : S} (hp : PassesOwn (model X.prog X.w) X.A X.env X.xe) (hc : X.calm = true) (hv : PE X (.Name x p) (tVar i)) (hg : PG X tg (gS G st)) (hb : PSs X body (tS G W f))
    (hs : ∀ y, foldedSetIterable (.Name x p) X.env y = pure y := by intro _; rfl) : PS X (.For tg (.Name x p) body [] pos) (tS G W (sForD i wkKeys st f)) := by
  refine PS.of (ps_lock (ps_for hp hc (pi_keys hv) hg hb hs)) fun D' σ H ⟨H0, io, fp, fv, ρ, I, q⟩ => ?_
  unfold sForD at q
  split at q
  · rename_i ks ds e
    obtain ⟨a, kvs, hσ, ha, rfl, h⟩ := forD_lock I e q
    refine ⟨a, .dK kvs, ha, by trivial, fun od => ?_⟩
    obtain ⟨fp', na, rs, go⟩ := h od
    exact ⟨_, hσ, a, od, rfl, .inl ⟨kvs, upd_same, go _ (wk_keys upd_same na)⟩⟩
  · exact q.elim
theorem px_forDI {i : Nat} {x : Str} {p apos cpos pos tpos : Pos} {kk : Nat} {elts : List Expr} {body : List Stmt} {st : Tg} {f : S} (hp : PassesOwn (model X.prog X.w) X.A X.env X.xe) (hc : X.calm = true) (hv : PE X (.Name x p) (tVar i)) (hg : PG X (.Tuple elts kk tpos) (gS G st)) (hb : PSs X body (tS G W f))
    (hbase : attributeBase (.Name x p) "items" X.env (eval (.Name x p) X.env) = eval (.Name x p) X.env := by rfl) (hline : (apos.endLine == cpos.line) = true := by rfl)
    (hs : ∀ y, foldedSetIterable (.Call (.Attribute (.Name x p) "items" apos) [] [] cpos) X.env y = pure y := by intro _; rfl) : PS X (.For (.Tuple elts kk tpos) (.Call (.Attribute (.Name x p) "items" apos) [] [] cpos) body [] pos) (tS G W (sForD i wkItems st f)) := by
  refine PS.of (ps_lock (ps_for hp hc (pi_items hv hbase hline) hg hb hs)) fun D' σ H ⟨H0, io, fp, fv, ρ, I, q⟩ => ?_
  unfold sForD at q
  split at q
  · rename_i ks ds e
    obtain ⟨a, kvs, hσ, ha, rfl, h⟩ := forD_lock I e q
    refine ⟨a, .dK kvs, ha, by trivial, fun od => ?_⟩
    obtain ⟨fp', na, rs, go⟩ := h od
    exact ⟨_, hσ, a, od, kvs, rfl, upd_same, go _ (wk_itemsD upd_same na rs)⟩
  · exact q.elim
end
def onDk (i : Nat) (wk : List Key → List D → List D) (st : Tg) (body : S) (ρ : Rho) : Option Sl → SO
  | some (.own (.dct ks ds)) => forL st body (wk ks ds) (ρ.set i (.shr (.dct ks ds)))
  | _ => .bad
@[simp] theorem sForD_eq (i : Nat) (wk : List Key → List D → List D) (st : Tg) (body : S) (ρ : Rho) : sForD i wk st body ρ = onDk i wk st body ρ ρ[i]? := by
  unfold sForD onDk
  rcases ρ[i]? with _ | s
  · rfl
  · cases s with
    | own d => cases d <;> rfl
    | _ => rfl
@[simp] theorem onDk_own (i : Nat) (wk : List Key → List D → List D) (st : Tg) (body : S) (ρ : Rho) (ks : List Key) (ds : List D) : onDk i wk st body ρ (some (.own (.dct ks ds))) = forL st body (wk ks ds) (ρ.set i (.shr (.dct ks ds))) := rfl
end Dn
set_option Elab.async false
set_option linter.all false
set_option maxRecDepth 100000
set_option maxHeartbeats 2000000
/-! Dn56: a comprehension over the values of a dict. -/
namespace Dn
open PySem L2
section
variable {X : Cx} {G : Cts} {W : WX} {σ : L2.St} {H : Hp} {ρ : Rho}
theorem lcx_core {st : Tg} {t : T} {f : E} {vs : List Nat} {Q : VK} {fp : Nat → List Addr} {ρ0 : Rho} {ds : List D} {y : List D × Md} {J : It} {H1 : Hp} (hlen : ∀ d ρ ρ', st d ρ = some ρ' → ρ'.length = ρ.length) (RO : LRO G Nav σ H ρ0) (e1 : Same H H1) (wk : Wk G (Own fun _ => []) J H1 ds) (z2 : lcL st t f (wipeR ρ0 vs) ds = .ok y) (hl : y.1.length ≤ 1000000)
    (q : ∀ v H', Same H H' → VOk G fp H H' (lcM y.2) (.lst y.1) v → Q v H') : tLc (fun _ _ R => R J H1) (gRO G st vs) (tT G W0 t) (tE G W0 f) vs σ H Q := by
  intro D hD
  have eD : ∀ {o : HO} {H2 : Hp}, Same H1 H2 → Same H1 (upd H2 D o) := fun e a u ha => by
    rw [upd_ne (ne_of_none ha hD)]
    exact e a u ha
  refine ⟨fun i m H' => m = ds.length - i ∧ i ≤ ds.length ∧ Same H1 H' ∧ ∃ acc da ma, H' D = some (.lst acc) ∧ VAcc G H1 D H' ma da acc ∧ (lcL st t f (wipeR ρ0 vs) (ds.drop i)).bind (fun z => .ok (da ++ z.1, Md.jn ma z.2)) = .ok y,
    ⟨ds.length, rfl, Nat.zero_le _, eD (Same.refl H1), [], [], .fr, upd_same, ⟨[], ⟨rfl, rfl⟩, List.nodup_nil, fun _ z => by cases z⟩, by rw [List.drop_zero, z2]; rfl⟩, ?_⟩
  rintro i m H' ⟨rfl, hi, eH, acc, da, ma, hD', va, ho⟩
  obtain ⟨w1, w2⟩ := wk H' (fun a o _ h => eH a o h) (tk_same eH) i
  by_cases hlt : i < ds.length
  · obtain ⟨go, yl⟩ := w1 ds[i] (List.getElem?_eq_getElem hlt)
    rw [List.drop_eq_getElem_cons hlt] at ho
    refine .inr ⟨go, fun H'' => i + 1 ≤ ds.length ∧ Same H1 H'' ∧ ∃ acc da ma, H'' D = some (.lst acc) ∧ VAcc G H1 D H'' ma da acc ∧ (lcL st t f (wipeR ρ0 vs) (ds.drop (i + 1))).bind (fun z => .ok (da ++ z.1, Md.jn ma z.2)) = .ok y,
      fun H'' h'' => ⟨ds.length - (i + 1), by omega, rfl, h''⟩, fun x H2 yy => ?_⟩
    obtain ⟨e2, rp⟩ := yl x H2 yy
    have eH2 := eH.trans e2
    have hD2 := e2 _ _ hD'
    have ro2 : LRO G (· = D) σ H2 ρ0 := by
      have : LRO G (· = D) σ H ρ0 := RO.weak fun a ⟨o, ha⟩ z => by
        subst z
        rw [e1 _ _ ha] at hD
        cases hD
      exact this.same (e1.trans eH2)
    unfold lcL at ho
    cases z3 : st ds[i] (wipeR ρ0 vs) with
    | none =>
      rw [z3] at ho
      cases ho
    | some ρ1 =>
      rw [z3] at ho
      simp only at ho
      refine ⟨(· = D), wipeR ρ0 vs, ds[i], ro2.wipe vs, rp _ (fun a z => .inr (z ▸ hD)), ρ1, z3, hlen _ _ _ z3, fun σ2 hw L2 => ⟨hw.trans (wipe_idem vs (fun _ z => z) σ), ?_⟩⟩
      cases z4 : t ρ1 with
      | ex e =>
        rw [z4] at ho
        cases ho
      | bad =>
        rw [z4] at ho
        cases ho
      | ok b =>
        rw [z4] at ho
        refine ⟨gD ρ1.length D, fun _ => none, ρ1, L2.lsr hD2, ?_⟩
        rw [z4]
        intro H3 e3
        have hD3 := e3 _ _ hD2
        have L3 := L2.same e3
        cases b with
        | false =>
          refine iteF ⟨hlt, eH2.trans e3, acc, da, ma, hD3, va.same (e2.trans e3), ho⟩
        | true =>
          refine iteT ?_
          simp only [R.nox, R.bind, if_true] at ho
          refine ⟨gD ρ1.length D, fun _ => none, ρ1, L3.lsr hD3, ?_⟩
          cases z5 : f ρ1 with
          | ex e =>
            rw [z5] at ho
            cases ho
          | bad =>
            rw [z5] at ho
            cases ho
          | ok xm =>
            obtain ⟨d, mm⟩ := xm
            rw [z5] at ho
            simp only at ho
            intro u H4 e4 v4
            by_cases nt : ntr (md d mm) = true
            · rw [if_pos nt] at ho
              have sn := va.snoc hD' eH (e2.trans e3) e4 v4.nrm nt
              have len : acc.length < 1000000 := by
                rw [← va.len]
                cases z6 : lcL st t f (wipeR ρ0 vs) (ds.drop (i + 1)) with
                | ex e =>
                  rw [z6] at ho
                  cases ho
                | bad =>
                  rw [z6] at ho
                  cases ho
                | ok w =>
                  rw [z6] at ho
                  have ho' : R.ok (da ++ d :: w.1, Md.jn ma (Md.jn (md d mm) w.2)) = R.ok y := ho
                  cases ho'
                  simp only [List.length_append, List.length_cons] at hl
                  omega
              refine ⟨acc, e4 _ _ hD3, line_lt len, hlt, eD ((eH2.trans e3).trans e4), acc ++ [u], da ++ [d], _, upd_same, sn, ?_⟩
              cases z6 : lcL st t f (wipeR ρ0 vs) (ds.drop (i + 1)) with
              | ex e =>
                rw [z6] at ho
                cases ho
              | bad =>
                rw [z6] at ho
                cases ho
              | ok w =>
                rw [z6] at ho
                have ho' : R.ok (da ++ d :: w.1, Md.jn ma (Md.jn (md d mm) w.2)) = R.ok y := ho
                rw [← ho']
                show R.ok (da ++ [d] ++ w.1, Md.jn (Md.jn ma (md d mm)) w.2) = _
                rw [jn_assoc, List.append_assoc]
                rfl
            · rw [if_neg nt] at ho
              cases ho
  · have e : i = ds.length := by omega
    subst e
    rw [List.drop_length] at ho
    have ho' : R.ok (da ++ [], Md.jn ma .fr) = R.ok y := ho
    rw [List.append_nil] at ho'
    refine .inl ⟨w2 rfl, q _ _ (e1.trans eH) ?_⟩
    have em : Md.jn ma .fr = ma := by cases ma <;> rfl
    rw [em] at ho'
    cases ho'
    cases ma with
    | tr => exact va.elim
    | fr =>
      obtain ⟨f', o1, n1, a1⟩ := va
      refine ⟨D :: f', ⟨D, acc, f', rfl, rfl, hD', o1⟩, List.nodup_cons.mpr ⟨fun z => (a1 D z).2 rfl, n1⟩, fun a ha => ?_⟩
      rcases List.mem_cons.mp ha with rfl | ha
      · exact e1.free hD
      · exact e1.free (a1 a ha).1
    | sh => exact ⟨D, acc, rfl, fun z => z, hD', Reps.tr (av := (· = D)) va⟩
def itV (i : Nat) (ρ : Rho) : R (List D) := match ρ[i]? with
  | some (.shr (.dct _ ds)) => .ok ds
  | _ => .bad
def eLcV (i : Nat) (st : Tg) (t : T) (f : E) (vs : List Nat) : E := fun ρ => (itV i (frzA ρ)).bind fun ds => (lcL st t f (wipeR (frzA ρ) vs) ds).bind fun y => match lcM y.2 with
  | .fr => if y.1.length ≤ 1000000 then .ok (.lst y.1, .fr) else .bad
  | _ => .bad
theorem wk_vals {H1 : Hp} {a : Addr} {od : Obj} {kvs : List (Key × V)} {ds : List D} (hu : H1 a = some (.frz od (.dK kvs))) (rs : Reps G Nav H1 ds (kvs.map (·.2))) : Wk G (Own fun _ => []) (Itd a od kvs) H1 ds := by
  intro H k t i
  have h := k a _ (fun ⟨_, z⟩ => by cases z) hu
  have le := rs.length
  rw [List.length_map] at le
  refine ⟨fun d hd => ?_, fun e => ⟨h, by omega⟩⟩
  have hi : i < kvs.length := by rw [← le]; exact (List.getElem?_eq_some_iff.mp hd).1
  refine ⟨⟨h, hi⟩, fun x H' y => ?_⟩
  obtain ⟨rfl, k0, hk⟩ := y
  obtain ⟨w, hw, rw0⟩ := rs.get hd
  rw [List.getElem?_map, hk] at hw
  cases hw
  exact ⟨Same.refl _, fun av' k' => Rep.wk (fun b o _ q => k b o (fun ⟨_, z⟩ => by cases z) q) t (fun b z => (k' b z).elim (fun ⟨_, z⟩ => by cases z) .inr) rw0⟩
theorem px_lcV {i : Nat} {x : Str} {p apos cpos : Pos} {elt tg : Expr} {ifs : List Expr} {scope : Scope} {own : List (Str × Nat)} {pos : Pos} {st : Tg} {t : T} {f : E} (hlen : ∀ d ρ ρ', st d ρ = some ρ' → ρ'.length = ρ.length) (hc : X.calm = true) (hN : X.N.Nodup) (hv : PE X (.Name x p) (tVar i)) (ok : BlkOk X.N X.env.scope scope own)
    (hg : ∀ (s : Shared) (H : Hp) (C : Addr) (cl : List (Str × Addr)) (fp : List Addr), PG (X.blk s H scope (compEnvC scope cl C X.env) fp) tg (gRO G st (own.map (·.2)))) (ht : ∀ (s : Shared) (H : Hp) (C : Addr) (cl : List (Str × Addr)) (fp : List Addr), PTs (X.blk s H scope (compEnvC scope cl C X.env) fp) ifs (tT G W0 t))
    (he : ∀ (s : Shared) (H : Hp) (C : Addr) (cl : List (Str × Addr)) (fp : List Addr), PE (X.blk s H scope (compEnvC scope cl C X.env) fp) elt (tE G W0 f))
    (hbase : attributeBase (.Name x p) "values" X.env (eval (.Name x p) X.env) = eval (.Name x p) X.env := by rfl) (hline : (apos.endLine == cpos.line) = true := by rfl) (hs : ∀ y, foldedSetIterable (.Call (.Attribute (.Name x p) "values" apos) [] [] cpos) X.env y = pure y := by intro _; rfl) :
    PE X (.ListComp elt [⟨tg, .Call (.Attribute (.Name x p) "values" apos) [] [] cpos, ifs, 0⟩] scope pos) (tE G W (eLcV i st t f (own.map (·.2)))) := by
  have A := pe_lc (pos := pos) hc hN (pi_values hv hbase hline) ok hg ht he hs
  refine PE.of (PE.or (pe_lock A) A) fun σ H Q ⟨fp, fv, ρ, I, q⟩ => ?_
  have RO := I.ro
  unfold eLcV itV at q
  cases e : (frzA ρ)[i]? with
  | none =>
    rw [e] at q
    exact q.elim
  | some s =>
    rw [e] at q
    rcases RO.sl i s e with rfl | ⟨d, v, rfl, hσ, r⟩
    · exact q.elim
    · cases d with
      | dct ks ds =>
        obtain ⟨a, kvs, rfl, _, hrd, hk, rs⟩ := r
        have q : yE G W fp σ H Q ((lcL st t f (wipeR (frzA ρ) (own.map (·.2))) ds).bind fun y => match lcM y.2 with
          | .fr => if y.1.length ≤ 1000000 then .ok (.lst y.1, .fr) else .bad
          | _ => .bad) := q
        cases z2 : lcL st t f (wipeR (frzA ρ) (own.map (·.2))) ds with
        | ex e => exact absurd z2 lcL_noex
        | bad =>
          rw [z2] at q
          exact q.elim
        | ok y =>
          rw [z2] at q
          have q : yE G W fp σ H Q (match lcM y.2 with
            | .fr => if y.1.length ≤ 1000000 then .ok (.lst y.1, .fr) else .bad
            | _ => .bad) := q
          cases zm : lcM y.2 with
          | sh =>
            rw [zm] at q
            exact q.elim
          | tr =>
            rw [zm] at q
            exact q.elim
          | fr =>
            rw [zm] at q
            by_cases hl : y.1.length ≤ 1000000
            · have q : yE G W fp σ H Q (if y.1.length ≤ 1000000 then .ok (.lst y.1, .fr) else .bad) := q
              rw [if_pos hl] at q
              have q : ∀ v H', Same H H' → Fresh G H H' (.lst y.1) v → Q v H' := q
              rcases hrd with live | ⟨od, frz⟩
              · refine .inl ⟨a, .dK kvs, live, by trivial, fun od => ?_⟩
                have du : DkO kvs (HO.dK kvs) := .inl rfl
                have d2 : DkO kvs (HO.frz od (HO.dK kvs)) := .inr ⟨od, rfl⟩
                have RO1 : LRO G Nav σ (upd H a (.frz od (.dK kvs))) (frzA ρ) := ⟨RO.len, fun i s h => (RO.sl i s h).imp id fun ⟨d, v, h1, h2, h3⟩ => ⟨d, v, h1, h2, Rep.chg live du d2 d v h3⟩⟩
                refine ⟨_, hσ, a, od, kvs, rfl, upd_same, ?_⟩
                refine (show tLc (fun _ _ R => R (Itd a od kvs) (upd H a (.frz od (.dK kvs)))) (gRO G st (own.map (·.2))) (tT G W0 t) (tE G W0 f) (own.map (·.2)) σ (upd H a (.frz od (.dK kvs))) (fun v H' => H' a = some (.frz od (.dK kvs)) ∧ Q v (upd H' a (.dK kvs))) from ?_)
                refine lcx_core (fp := fp) hlen RO1 (Same.refl _) (wk_vals upd_same (Reps.chg live du d2 _ _ rs)) z2 hl fun v H' sm vo => ?_
                have hf : H' a = some (.frz od (.dK kvs)) := sm a _ upd_same
                refine ⟨hf, q v _ (fun b o hb => ?_) ?_⟩
                · by_cases n : b = a
                  · subst n
                    rw [live] at hb
                    cases hb
                    exact upd_same
                  · rw [upd_ne n]
                    exact sm b o (by rw [upd_ne n]; exact hb)
                · rw [zm] at vo
                  obtain ⟨g, o, nd, fr⟩ := vo
                  refine ⟨g, OT.chg hf _ _ _ o, nd, fun b hb => ?_⟩
                  have := fr b hb
                  by_cases n : b = a
                  · subst n
                    rw [upd_same] at this
                    cases this
                  · rw [upd_ne n] at this
                    exact this
              · refine .inr ⟨_, hσ, a, od, kvs, rfl, frz, ?_⟩
                refine (show tLc (fun _ _ R => R (Itd a od kvs) H) (gRO G st (own.map (·.2))) (tT G W0 t) (tE G W0 f) (own.map (·.2)) σ H Q from ?_)
                refine lcx_core (fp := fp) hlen RO (Same.refl _) (wk_vals frz rs) z2 hl fun v H' sm vo => ?_
                rw [zm] at vo
                exact q v H' sm vo
            · have q : yE G W fp σ H Q (if y.1.length ≤ 1000000 then .ok (.lst y.1, .fr) else .bad) := q
              rw [if_neg hl] at q
              exact q.elim
      | _ => exact q.elim
end
end Dn
set_option Elab.async false
set_option linter.all false
set_option maxRecDepth 100000
set_option maxHeartbeats 4000000
namespace Dn
open PySem L2
-- 0:items 1:item
def T_rows_of_0 : T := (tOf (eBin oNe (eIx (eVar 1) (eC (.int 0))) (eC (.str (tx [108, 97, 98, 101, 108])))))
def B_rows_of : S := (sRet (eLc (itSeq (eVar 0)) (tgN 1) T_rows_of_0 (eVar 1) [1]))
def F_rows_of : List D → R D := fnD 1 2 B_rows_of

-- 0:items 1:places 2:number 3:item
def W_places_of_0 : S := (sIf (tOf (eBin oEq (eIx (eVar 3) (eC (.int 0))) (eC (.str (tx [108, 97, 98, 101, 108]))))) (sSetI 1 (eIx (eVar 3) (eC (.int 1))) (eVar 2)) (sAsg 2 (eBin oAddIS (eVar 2) (eC (.int 1)))))
def B_places_of : S := (fSeq (sAsg 1 eDct0)
  (fSeq (sAsg 2 (eC (.int 0)))
  (fSeq (sFor (itSeq (eVar 0)) (tgN 3) W_places_of_0)
  (sRetV 1))))
def F_places_of : List D → R D := fnD 1 4 B_places_of

-- 0:items 1:name 2:places
def B_place_of : S := (fSeq (sAsg 2 (eCall F_places_of (eCons (eVar 0) eNil)))
  (fSeq (sIf (tOf (eBin oNotInX (eVar 1) (eVar 2))) (sRaise 3) fPass)
  (sRetIx 2 (eVar 1))))
def F_place_of : List D → R D := fnD 2 3 B_place_of

-- 0:_law_script 1:_law_k
def B__law_cell_at : S := (fSeq (sIf (tOf (eBin oLt (eVar 1) (eFn oLen (eCons (eVar 0) eNil)))) (sRetIx 0 (eVar 1)) fPass)
  (sRet (eC (.int 0))))
def F__law_cell_at : List D → R D := fnD 2 2 B__law_cell_at

-- 0:_law_found
def B__law_whole : S := (sRet (eAndV (eFn oIsi (eCons (eVar 0) (eCons (eC (.ty "int")) eNil))) (eNotV (eFn oIsi (eCons (eVar 0) (eCons (eC (.ty "bool")) eNil))))))
def F__law_whole : List D → R D := fnD 1 1 B__law_whole

-- 0:_law_cell 1:_law_k 2:_law_many 3:_law_some 4:_law_made
def B__law_mixed : S := (fSeq (sAsg 3 (eLst (eCons (eC (.int 99991)) (eCons (eC (.int 99989)) (eCons (eC (.int 99971)) (eCons (eC (.int 99961)) (eCons (eC (.int 99929)) (eCons (eC (.int 99923)) (eCons (eC (.int 99907)) (eCons (eC (.int 99901)) (eCons (eC (.int 99881)) (eCons (eC (.int 99877)) (eCons (eC (.int 99871)) eNil)))))))))))))
  (fSeq (sAsg 4 (eBin oMod (eBin oMulI (eAdd (eVar 0) (eBin oMulI (eC (.int 7)) (eVar 1))) (eC (.int 48271))) (eIx (eVar 3) (eBin oMod (eVar 1) (eC (.int 11))))))
  (sRet (eBin oMod (eBin oMod (eAdd (eAdd (eBin oMulI (eBin oMulI (eVar 4) (eVar 4)) (eC (.int 7))) (eVar 4)) (eVar 1)) (eC (.int 1000003))) (eVar 2)))))
def F__law_mixed : List D → R D := fnD 3 5 B__law_mixed

-- 0:_law_e 1:_law_words_here
def B__law_class : S := (fSeq (sAsg 1 (eLst eNil))
  (fSeq (sIf (tTru (eIsE 7 0 1)) (sApp 1 (eC (.str (tx [110, 117, 109, 98, 101, 114])))) fPass)
  (fSeq (sIf (tTru (eIsE 7 0 2)) (sApp 1 (eC (.str (tx [116, 101, 120, 116])))) fPass)
  (fSeq (sIf (tTru (eIsE 7 0 3)) (sApp 1 (eC (.str (tx [108, 97, 98, 101, 108])))) fPass)
  (fSeq (sIf (tOr' (tTru (eIsE 7 0 4)) (tOr' (tTru (eIsE 7 0 5)) (tTru (eIsE 7 0 6)))) (sApp 1 (eC (.str (tx [111, 116, 104, 101, 114])))) fPass)
  (fSeq (sIf (tAnd' (tOf (eBin oEq (eFn oLen (eCons (eVar 1) eNil)) (eC (.int 1)))) (tTru (eIsV 0))) (sRetIx 1 (eC (.int 0))) fPass)
  (sRet (eC (.str (tx [111, 116, 104, 101, 114]))))))))))
def F__law_class : Nat → R D := fnE 2 B__law_class

-- 0:_law_k
def B__law_letter : S := (sRet (eIx (eC (.str (tx abc))) (eBin oMod (eVar 0) (eC (.int 26)))))
def F__law_letter : List D → R D := fnD 1 1 B__law_letter

-- 0:_law_cell 1:_law_many 2:_law_size 3:_law_spot 4:_law_word 5:_law_own 6:_law_names_here 7:_law_k 8:_law_letter_here 9:_law_name 10:_law_others 11:_law_j 12:_law_one
def C__law_names_0 : E := (eCall F__law_letter (eCons (eCall F__law_mixed (eCons (eVar 0) (eCons (eAdd (eC (.int 4)) (eVar 11)) (eCons (eC (.int 26)) eNil)))) eNil))
def C__law_names_1 : E := (eAdd (eCall F__law_letter (eCons (eVar 11) eNil)) (eC (.str (tx [113, 122, 113, 122]))))
def C__law_names_2 : E := (eAdd (eCall F__law_letter (eCons (eVar 11) eNil)) (eC (.str (tx [122, 113, 122, 113]))))
def T__law_names_3 : T := (tOf (eBin oNotInX (eVar 12) (eVar 6)))
def W__law_names_4 : S := (fSeq (sAsg 8 (eCall F__law_letter (eCons (eAdd (eCall F__law_mixed (eCons (eVar 0) (eCons (eC (.int 5)) (eCons (eC (.int 26)) eNil)))) (eBin oMulI (eC (.int 5)) (eVar 7))) eNil)))
  (fSeq (sAsg 9 (eAdd (eAdd (eSl (eVar 4) pNo (pAt (eVar 3))) (eVar 8)) (eSl (eVar 4) (pAt (eAdd (eVar 3) (eC (.int 1)))) (pAt (eVar 2)))))
  (fSeq (sIf (tAnd' (tOf (eBin oEq (eCall F__law_mixed (eCons (eVar 0) (eCons (eC (.int 6)) (eCons (eC (.int 4)) eNil)))) (eC (.int 0)))) (tOf (eBin oLt (eVar 7) (eC (.int 8))))) (sAsg 9 (eIx (eLst (eCons (eSl (eVar 4) pNo (pAt (eAdd (eVar 7) (eC (.int 1))))) (eCons (eIx (eVar 5) (eVar 7)) eNil))) (eCall F__law_mixed (eCons (eVar 0) (eCons (eC (.int 7)) (eCons (eC (.int 2)) eNil)))))) fPass)
  (fSeq (sIf (tOf (eBin oInX (eVar 9) (eVar 6))) (fSeq (sAsg 10 (eAdd (eLc (itBy rng1 (eCons (eC (.int 26)) eNil)) (tgN 11) tYes' C__law_names_1 [11]) (eLc (itBy rng1 (eCons (eC (.int 26)) eNil)) (tgN 11) tYes' C__law_names_2 [11])))
  (sAsg 9 (eIx (eLc (itSeq (eVar 10)) (tgN 12) T__law_names_3 (eVar 12) [12]) (eC (.int 0))))) fPass)
  (sApp 6 (eVar 9))))))
def B__law_names : S := (fSeq (sAsg 2 (eAdd (eC (.int 1)) (eCall F__law_mixed (eCons (eVar 0) (eCons (eC (.int 2)) (eCons (eC (.int 8)) eNil))))))
  (fSeq (sAsg 3 (eCall F__law_mixed (eCons (eVar 0) (eCons (eC (.int 3)) (eCons (eVar 2) eNil)))))
  (fSeq (sAsg 4 (eMet "str" oJoin (eC (.str (tx []))) (eCons (eLc (itBy rng1 (eCons (eC (.int 8)) eNil)) (tgN 11) tYes' C__law_names_0 [11]) eNil)))
  (fSeq (sAsg 5 (eLst (eCons (eC (.str (tx [97, 100, 100]))) (eCons (eC (.str (tx [115, 116, 111, 112]))) (eCons (eC (.str (tx [99, 97, 114, 114, 121]))) (eCons (eC (.str (tx [108, 97, 98, 101, 108]))) (eCons (eC (.str (tx [106, 117, 109, 112]))) (eCons (eC (.str (tx [115, 101, 116]))) (eCons (eC (.str (tx [115, 105, 103, 110]))) (eCons (eC (.str (tx [119, 104, 101, 110]))) eNil))))))))))
  (fSeq (sAsg 6 (eLst eNil))
  (fSeq (sFor (itBy rng1 (eCons (eVar 1) eNil)) (tgN 7) W__law_names_4)
  (sRetV 6)))))))
def F__law_names : List D → R D := fnD 2 13 B__law_names

-- 0:_law_word
def B__law_shape : S := (fSeq (sIf (tOf (eBin oInX (eVar 0) (eLst (eCons (eC (.str (tx [115, 101, 116]))) (eCons (eC (.str (tx [104, 105, 103, 104]))) eNil))))) (sRet (eLst (eCons (eC (.int 8)) (eCons (eC (.int 65536)) eNil)))) fPass)
  (fSeq (sIf (tOf (eBin oInX (eVar 0) (eLst (eCons (eC (.str (tx [108, 101, 102, 116]))) (eCons (eC (.str (tx [114, 105, 103, 104, 116]))) eNil))))) (sRet (eLst (eCons (eC (.int 8)) (eCons (eC (.int 32)) eNil)))) fPass)
  (fSeq (sIf (tOf (eBin oInX (eVar 0) (eLst (eCons (eC (.str (tx [108, 111, 97, 100]))) (eCons (eC (.str (tx [115, 116, 111, 114, 101]))) (eCons (eC (.str (tx [108, 111, 97, 100, 119]))) (eCons (eC (.str (tx [115, 116, 111, 114, 101, 119]))) eNil))))))) (sRet (eLst (eCons (eC (.int 8)) (eCons (eC (.int 8)) (eCons (eC (.int 256)) eNil))))) fPass)
  (fSeq (sIf (tOf (eBin oInX (eVar 0) (eLst (eCons (eC (.str (tx [99, 111, 112, 121]))) (eCons (eC (.str (tx [97, 100, 100]))) (eCons (eC (.str (tx [97, 100, 100, 99]))) (eCons (eC (.str (tx [115, 117, 98]))) (eCons (eC (.str (tx [115, 117, 98, 99]))) (eCons (eC (.str (tx [97, 110, 100]))) (eCons (eC (.str (tx [111, 114]))) (eCons (eC (.str (tx [120, 111, 114]))) (eCons (eC (.str (tx [116, 101, 115, 116]))) eNil)))))))))))) (sRet (eLst (eCons (eC (.int 8)) (eCons (eC (.int 8)) eNil)))) fPass)
  (sRet (eIx (eDct [(.inr (tx [108, 97, 98, 101, 108]), (eLst (eCons (eC (.str (tx [110, 97, 109, 101]))) eNil))), (.inr (tx [106, 117, 109, 112]), (eLst (eCons (eC (.str (tx [110, 97, 109, 101]))) eNil))), (.inr (tx [119, 104, 101, 110]), (eLst (eCons (eC (.str (tx [109, 97, 114, 107]))) (eCons (eC (.str (tx [110, 97, 109, 101]))) eNil)))), (.inr (tx [117, 110, 108, 101, 115, 115]), (eLst (eCons (eC (.str (tx [109, 97, 114, 107]))) (eCons (eC (.str (tx [110, 97, 109, 101]))) eNil)))), (.inr (tx [115, 116, 111, 112]), (eLst eNil))]) (eVar 0)))))))
def F__law_shape : List D → R D := fnD 1 1 B__law_shape

-- 0:_law_some
def B__law_words : S := (fSeq (sAsg 0 (eLst (eCons (eC (.str (tx [115, 101, 116]))) (eCons (eC (.str (tx [104, 105, 103, 104]))) (eCons (eC (.str (tx [99, 111, 112, 121]))) (eCons (eC (.str (tx [97, 100, 100]))) (eCons (eC (.str (tx [97, 100, 100, 99]))) (eCons (eC (.str (tx [115, 117, 98]))) (eCons (eC (.str (tx [115, 117, 98, 99]))) (eCons (eC (.str (tx [97, 110, 100]))) (eCons (eC (.str (tx [111, 114]))) (eCons (eC (.str (tx [120, 111, 114]))) (eCons (eC (.str (tx [116, 101, 115, 116]))) (eCons (eC (.str (tx [108, 101, 102, 116]))) (eCons (eC (.str (tx [114, 105, 103, 104, 116]))) (eCons (eC (.str (tx [108, 111, 97, 100]))) eNil))))))))))))))))
  (sRet (eAdd (eVar 0) (eLst (eCons (eC (.str (tx [115, 116, 111, 114, 101]))) (eCons (eC (.str (tx [108, 111, 97, 100, 119]))) (eCons (eC (.str (tx [115, 116, 111, 114, 101, 119]))) (eCons (eC (.str (tx [106, 117, 109, 112]))) (eCons (eC (.str (tx [119, 104, 101, 110]))) (eCons (eC (.str (tx [117, 110, 108, 101, 115, 115]))) (eCons (eC (.str (tx [115, 116, 111, 112]))) eNil)))))))))))
def F__law_words : List D → R D := fnD 0 1 B__law_words

-- 0:_law_kind 1:_law_cell 2:_law_k 3:_law_names_here
def B__law_part_by : S := (fSeq (sIf (tOf (eBin oEq (eVar 0) (eC (.str (tx [110, 97, 109, 101]))))) (sRetIx 3 (eCall F__law_mixed (eCons (eVar 1) (eCons (eVar 2) (eCons (eFn oLen (eCons (eVar 3) eNil)) eNil))))) fPass)
  (fSeq (sIf (tOf (eBin oEq (eVar 0) (eC (.str (tx [109, 97, 114, 107]))))) (sRet (eIx (eLst (eCons (eC (.str (tx [99, 97, 114, 114, 121]))) (eCons (eC (.str (tx [110, 111, 117, 103, 104, 116]))) (eCons (eC (.str (tx [115, 105, 103, 110]))) eNil)))) (eCall F__law_mixed (eCons (eVar 1) (eCons (eVar 2) (eCons (eC (.int 3)) eNil)))))) fPass)
  (sRet (eIx (eLst (eCons (eC (.int 0)) (eCons (eBin oSub (eVar 0) (eC (.int 1))) (eCons (eCall F__law_mixed (eCons (eVar 1) (eCons (eVar 2) (eCons (eVar 0) eNil)))) (eCons (eCall F__law_mixed (eCons (eVar 1) (eCons (eAdd (eVar 2) (eC (.int 1))) (eCons (eVar 0) eNil)))) eNil))))) (eCall F__law_mixed (eCons (eVar 1) (eCons (eAdd (eVar 2) (eC (.int 2))) (eCons (eC (.int 4)) eNil))))))))
def F__law_part_by : List D → R D := fnD 4 4 B__law_part_by

-- 0:_law_cell 1:_law_names_here 2:_law_word 3:_law_shape_here 4:_law_k
def C__law_row_by_0 : E := (eCall F__law_part_by (eCons (eIx (eVar 3) (eVar 4)) (eCons (eVar 0) (eCons (eAdd (eBin oMulI (eC (.int 2)) (eVar 4)) (eC (.int 1))) (eCons (eVar 1) eNil)))))
def B__law_row_by : S := (fSeq (sAsg 2 (eIx (eCall0 F__law_words) (eCall F__law_mixed (eCons (eVar 0) (eCons (eC (.int 0)) (eCons (eC (.int 21)) eNil))))))
  (fSeq (sIf (tOf (eBin oEq (eCall F__law_mixed (eCons (eVar 0) (eCons (eC (.int 8)) (eCons (eC (.int 4)) eNil)))) (eC (.int 1)))) (sAsg 2 (eIx (eLst (eCons (eC (.str (tx [106, 117, 109, 112]))) (eCons (eC (.str (tx [119, 104, 101, 110]))) (eCons (eC (.str (tx [117, 110, 108, 101, 115, 115]))) eNil)))) (eCall F__law_mixed (eCons (eVar 0) (eCons (eC (.int 9)) (eCons (eC (.int 3)) eNil)))))) fPass)
  (fSeq (sIf (tAnd' (tOf (eBin oInX (eVar 2) (eLst (eCons (eC (.str (tx [106, 117, 109, 112]))) (eCons (eC (.str (tx [119, 104, 101, 110]))) (eCons (eC (.str (tx [117, 110, 108, 101, 115, 115]))) eNil)))))) (tOf (eBin oEq (eFn oLen (eCons (eVar 1) eNil)) (eC (.int 0))))) (sAsg 2 (eC (.str (tx [115, 116, 111, 112])))) fPass)
  (fSeq (sAsg 3 (eCall F__law_shape (eCons (eVar 2) eNil)))
  (sRet (eAdd (eTup (eCons (eVar 2) eNil)) (eCopy tupOf (eCons (eLc (itBy rng1 (eCons (eFn oLen (eCons (eVar 3) eNil)) eNil)) (tgN 4) tYes' C__law_row_by_0 [4]) eNil))))))))
def F__law_row_by : List D → R D := fnD 2 5 B__law_row_by

-- 0:_law_script 1:_law_first 2:_law_far 3:_law_cells 4:_law_many 5:_law_names_here 6:_law_items 7:_law_k 8:_law_cell
def C__law_program_0 : E := (eAdd (eBin oDiv (eVar 2) (eC (.int 12))) (eBin oMulI (eC (.int 17)) (eVar 7)))
def C__law_program_1 : E := (eCall F__law_row_by (eCons (eVar 8) (eCons (eVar 5) eNil)))
def W__law_program_2 : S := (sIns 6 (eCall F__law_mixed (eCons (eAdd (eVar 2) (eBin oDiv (eVar 7) (eC (.int 5)))) (eCons (eVar 7) (eCons (eAdd (eFn oLen (eCons (eVar 6) eNil)) (eC (.int 1))) eNil)))) (eTup (eCons (eC (.str (tx [108, 97, 98, 101, 108]))) (eCons (eIx (eVar 5) (eVar 7)) eNil))))
def B__law_program : S := (fSeq (sAsg 2 (eCall F__law_cell_at (eCons (eVar 0) (eCons (eVar 1) eNil))))
  (fSeq (sAsg 3 (eSl (eVar 0) (pAt (eAdd (eVar 1) (eC (.int 1)))) (pAt (eAdd (eVar 1) (eC (.int 31))))))
  (fSeq (sIf (tOf (eBin oEq (eBin oMod (eVar 2) (eC (.int 12))) (eC (.int 5)))) (sAsg 3 (eLc (itBy rng1 (eCons (eAdd (eC (.int 40)) (eBin oMod (eBin oDiv (eVar 2) (eC (.int 12))) (eC (.int 160)))) eNil)) (tgN 7) tYes' C__law_program_0 [7])) fPass)
  (fSeq (sAsg 4 (eIx (eLst (eCons (eC (.int 0)) (eCons (eC (.int 1)) (eCons (eC (.int 2)) (eCons (eC (.int 3)) (eCons (eC (.int 4)) (eCons (eC (.int 6)) (eCons (eC (.int 8)) (eCons (eC (.int 20)) eNil))))))))) (eCall F__law_mixed (eCons (eVar 2) (eCons (eC (.int 1)) (eCons (eC (.int 8)) eNil))))))
  (fSeq (sIf (tOf (eBin oEq (eBin oMod (eVar 2) (eC (.int 24))) (eC (.int 5)))) (sAsg 4 (eC (.int 40))) fPass)
  (fSeq (sAsg 5 (eCall F__law_names (eCons (eBin oDiv (eVar 2) (eC (.int 3))) (eCons (eVar 4) eNil))))
  (fSeq (sAsg 6 (eLc (itSeq (eVar 3)) (tgN 8) tYes' C__law_program_1 [8]))
  (fSeq (sFor (itBy rng1 (eCons (eFn oLen (eCons (eVar 5) eNil)) eNil)) (tgN 7) W__law_program_2)
  (sRetV 6)))))))))
def F__law_program : List D → R D := fnD 2 9 B__law_program

-- 0:_law_found 1:_law_due 2:_law_k
def C__law_alike_r0_0 : E := eBad
def B__law_alike_r0 : S := (fSeq (sIf (tTru (eIsi2 "tuple" "list" (eVar 1))) (fSeq (sIf (tOr' (tNot' (tTru (eIsi2 "tuple" "list" (eVar 0)))) (tOf (eBin oNe (eFn oIsi (eCons (eVar 0) (eCons (eC (.ty "tuple")) eNil))) (eFn oIsi (eCons (eVar 1) (eCons (eC (.ty "tuple")) eNil)))))) (sRet (eC (.bl false))) fPass)
  (sRet (eAndV (eBin oEq (eFn oLen (eCons (eVar 0) eNil)) (eFn oLen (eCons (eVar 1) eNil))) (eFn oAll (eCons (eLc (itBy rng1 (eCons (eFn oLen (eCons (eVar 1) eNil)) eNil)) (tgN 2) tYes' C__law_alike_r0_0 [2]) eNil))))) fPass)
  (fSeq (sIf (tTru (eFn oIsi (eCons (eVar 1) (eCons (eC (.ty "str")) eNil)))) (sRet (eAndV (eFn oIsi (eCons (eVar 0) (eCons (eC (.ty "str")) eNil))) (eBin oEq (eVar 0) (eVar 1)))) fPass)
  (sRet (eAndV (eCall F__law_whole (eCons (eVar 0) eNil)) (eBin oEq (eVar 0) (eVar 1))))))
def F__law_alike_r0 : List D → R D := fnD 2 3 B__law_alike_r0

-- 0:_law_found 1:_law_due 2:_law_k
def C__law_alike_r1_0 : E := (eCall F__law_alike_r0 (eCons (eIx (eVar 0) (eVar 2)) (eCons (eIx (eVar 1) (eVar 2)) eNil)))
def B__law_alike_r1 : S := (fSeq (sIf (tTru (eIsi2 "tuple" "list" (eVar 1))) (fSeq (sIf (tOr' (tNot' (tTru (eIsi2 "tuple" "list" (eVar 0)))) (tOf (eBin oNe (eFn oIsi (eCons (eVar 0) (eCons (eC (.ty "tuple")) eNil))) (eFn oIsi (eCons (eVar 1) (eCons (eC (.ty "tuple")) eNil)))))) (sRet (eC (.bl false))) fPass)
  (sRet (eAndV (eBin oEq (eFn oLen (eCons (eVar 0) eNil)) (eFn oLen (eCons (eVar 1) eNil))) (eFn oAll (eCons (eLc (itBy rng1 (eCons (eFn oLen (eCons (eVar 1) eNil)) eNil)) (tgN 2) tYes' C__law_alike_r1_0 [2]) eNil))))) fPass)
  (fSeq (sIf (tTru (eFn oIsi (eCons (eVar 1) (eCons (eC (.ty "str")) eNil)))) (sRet (eAndV (eFn oIsi (eCons (eVar 0) (eCons (eC (.ty "str")) eNil))) (eBin oEq (eVar 0) (eVar 1)))) fPass)
  (sRet (eAndV (eCall F__law_whole (eCons (eVar 0) eNil)) (eBin oEq (eVar 0) (eVar 1))))))
def F__law_alike_r1 : List D → R D := fnD 2 3 B__law_alike_r1

-- 0:_law_found 1:_law_due 2:_law_k
def C__law_alike_r2_0 : E := (eCall F__law_alike_r1 (eCons (eIx (eVar 0) (eVar 2)) (eCons (eIx (eVar 1) (eVar 2)) eNil)))
def B__law_alike_r2 : S := (fSeq (sIf (tTru (eIsi2 "tuple" "list" (eVar 1))) (fSeq (sIf (tOr' (tNot' (tTru (eIsi2 "tuple" "list" (eVar 0)))) (tOf (eBin oNe (eFn oIsi (eCons (eVar 0) (eCons (eC (.ty "tuple")) eNil))) (eFn oIsi (eCons (eVar 1) (eCons (eC (.ty "tuple")) eNil)))))) (sRet (eC (.bl false))) fPass)
  (sRet (eAndV (eBin oEq (eFn oLen (eCons (eVar 0) eNil)) (eFn oLen (eCons (eVar 1) eNil))) (eFn oAll (eCons (eLc (itBy rng1 (eCons (eFn oLen (eCons (eVar 1) eNil)) eNil)) (tgN 2) tYes' C__law_alike_r2_0 [2]) eNil))))) fPass)
  (fSeq (sIf (tTru (eFn oIsi (eCons (eVar 1) (eCons (eC (.ty "str")) eNil)))) (sRet (eAndV (eFn oIsi (eCons (eVar 0) (eCons (eC (.ty "str")) eNil))) (eBin oEq (eVar 0) (eVar 1)))) fPass)
  (sRet (eAndV (eCall F__law_whole (eCons (eVar 0) eNil)) (eBin oEq (eVar 0) (eVar 1))))))
def F__law_alike_r2 : List D → R D := fnD 2 3 B__law_alike_r2

-- 0:_law_found 1:_law_due 2:_law_k
def C__law_alike_r3_0 : E := (eCall F__law_alike_r2 (eCons (eIx (eVar 0) (eVar 2)) (eCons (eIx (eVar 1) (eVar 2)) eNil)))
def B__law_alike_r3 : S := (fSeq (sIf (tTru (eIsi2 "tuple" "list" (eVar 1))) (fSeq (sIf (tOr' (tNot' (tTru (eIsi2 "tuple" "list" (eVar 0)))) (tOf (eBin oNe (eFn oIsi (eCons (eVar 0) (eCons (eC (.ty "tuple")) eNil))) (eFn oIsi (eCons (eVar 1) (eCons (eC (.ty "tuple")) eNil)))))) (sRet (eC (.bl false))) fPass)
  (sRet (eAndV (eBin oEq (eFn oLen (eCons (eVar 0) eNil)) (eFn oLen (eCons (eVar 1) eNil))) (eFn oAll (eCons (eLc (itBy rng1 (eCons (eFn oLen (eCons (eVar 1) eNil)) eNil)) (tgN 2) tYes' C__law_alike_r3_0 [2]) eNil))))) fPass)
  (fSeq (sIf (tTru (eFn oIsi (eCons (eVar 1) (eCons (eC (.ty "str")) eNil)))) (sRet (eAndV (eFn oIsi (eCons (eVar 0) (eCons (eC (.ty "str")) eNil))) (eBin oEq (eVar 0) (eVar 1)))) fPass)
  (sRet (eAndV (eCall F__law_whole (eCons (eVar 0) eNil)) (eBin oEq (eVar 0) (eVar 1))))))
def F__law_alike_r3 : List D → R D := fnD 2 3 B__law_alike_r3

-- 0:_law_items 1:_law_name 2:_law_e
def B__law_place : S := (sTry 7 2 0 (sRet (eTup (eCons (eC (.str (tx []))) (eCons (eCall F_place_of (eCons (eVar 0) (eCons (eVar 1) eNil))) eNil)))) (sRet (eTup (eCons (eCallE F__law_class 2) (eCons (eC .non) eNil)))))
def F__law_place : List D → R D := fnD 2 3 B__law_place

-- 0:_law_script 1:_law_items 2:_law_handed 3:_law_due 4:_law_found 5:_law_places 6:_law_number 7:_law_item 8:_law_name 9:_law_told 10:_law_word
def T_law_0 : T := (tOf (eBin oNe (eIx (eVar 7) (eC (.int 0))) (eC (.str (tx [108, 97, 98, 101, 108])))))
def W_law_1 : S := (sIf (tOf (eBin oEq (eIx (eVar 7) (eC (.int 0))) (eC (.str (tx [108, 97, 98, 101, 108]))))) (sSetI 5 (eIx (eVar 7) (eC (.int 1))) (eVar 6)) (sAsg 6 (eAdd (eVar 6) (eC (.int 1)))))
def W_law_2 : S := (fSeq (sAsg 9 (eCall F__law_place (eCons (eVar 2) (eCons (eVar 8) eNil))))
  (sIf (tOr' (tOf (eBin oNe (eIx (eVar 9) (eC (.int 0))) (eC (.str (tx []))))) (tOr' (tNot' (tTru (eCall F__law_whole (eCons (eIx (eVar 9) (eC (.int 1))) eNil)))) (tOf (eBin oNe (eIx (eVar 9) (eC (.int 1))) (eIx (eVar 5) (eVar 8)))))) (sRet (eC (.bl false))) fPass))
def B_law : S := (fSeq (sAsg 1 (eCall F__law_program (eCons (eVar 0) (eCons (eC (.int 1)) eNil))))
  (fSeq (sAsg 2 (eCopy lstOf (eCons (eVar 1) eNil)))
  (fSeq (sAsg 3 (eLc (itSeq (eVar 1)) (tgN 7) T_law_0 (eVar 7) [7]))
  (fSeq (sAsg 4 (eCall F_rows_of (eCons (eVar 2) eNil)))
  (fSeq (sIf (tOr' (tNot' (tTru (eFn oIsi (eCons (eVar 4) (eCons (eC (.ty "list")) eNil))))) (tOr' (tNot' (tTru (eCall F__law_alike_r3 (eCons (eVar 4) (eCons (eVar 3) eNil))))) (tOf (eBin oNe (eVar 2) (eVar 1))))) (sRet (eC (.bl false))) fPass)
  (fSeq (sApp 4 (eTup (eCons (eC (.str (tx [115, 116, 111, 112]))) eNil)))
  (fSeq (sAsg 5 eDct0)
  (fSeq (sAsg 6 (eC (.int 0)))
  (fSeq (sForV 1 (tgN 7) W_law_1)
  (fSeq (sForD 5 wkKeys (tgN 8) W_law_2)
  (fSeq (sAsg 10 (eIx (eLst (eCons (eC (.str (tx [115, 116, 114, 97, 110, 103, 101]))) (eCons (eC (.str (tx [97]))) (eCons (eC (.str (tx [97, 100, 100]))) (eCons (eC (.str (tx [115, 116, 111, 112]))) (eCons (eC (.str (tx [122, 122]))) eNil)))))) (eBin oMod (eCall F__law_cell_at (eCons (eVar 0) (eCons (eC (.int 0)) eNil))) (eC (.int 5)))))
  (fSeq (sIf (tOf (eBin oGt (eFn oLen (eCons (eVar 5) eNil)) (eC (.int 0)))) (sAsg 10 (eIx (eLst (eCons (eVar 10) (eCons (eAdd (eSl (eIx (eCopy lstOf (eCons (eVar 5) eNil)) (eC (.int 0))) pNo (pAt (eUn oNeg (eC (.int 1))))) (eC (.str (tx [120])))) (eCons (eAdd (eIx (eCopy lstOf (eCons (eVar 5) eNil)) (eC (.int 0))) (eC (.str (tx [121])))) eNil)))) (eBin oMod (eBin oDiv (eCall F__law_cell_at (eCons (eVar 0) (eCons (eC (.int 0)) eNil))) (eC (.int 5))) (eC (.int 3))))) fPass)
  (fSeq (sAsg 9 (eCall F__law_place (eCons (eVar 2) (eCons (eVar 10) eNil))))
  (fSeq (sIf (tAnd' (tOf (eBin oNotInX (eVar 10) (eVar 5))) (tOf (eBin oNe (eVar 9) (eTup (eCons (eC (.str (tx [108, 97, 98, 101, 108]))) (eCons (eC .non) eNil)))))) (sRet (eC (.bl false))) fPass)
  (sRet (eAndV (eBin oEq (eVar 2) (eVar 1)) (eCall F__law_alike_r3 (eCons (eCall F_rows_of (eCons (eVar 2) eNil)) (eCons (eVar 3) eNil)))))))))))))))))))
def F_law : List D → R D := fnD 1 11 B_law

end Dn
namespace Dn
open PySem L2
theorem q0 : Str.ofString "label" = tx [108, 97, 98, 101, 108] := lit_of (by rfl)
theorem q1 : Str.ofString "number" = tx [110, 117, 109, 98, 101, 114] := lit_of (by rfl)
theorem q2 : Str.ofString "text" = tx [116, 101, 120, 116] := lit_of (by rfl)
theorem q3 : Str.ofString "other" = tx [111, 116, 104, 101, 114] := lit_of (by rfl)
theorem q4 : Str.ofString "abcdefghijklmnopqrstuvwxyz" = tx abc := lit_of (by rfl)
theorem q5 : Str.ofString "" = tx [] := lit_of (by rfl)
theorem q6 : Str.ofString "when" = tx [119, 104, 101, 110] := lit_of (by rfl)
theorem q7 : Str.ofString "sign" = tx [115, 105, 103, 110] := lit_of (by rfl)
theorem q8 : Str.ofString "set" = tx [115, 101, 116] := lit_of (by rfl)
theorem q9 : Str.ofString "jump" = tx [106, 117, 109, 112] := lit_of (by rfl)
theorem q10 : Str.ofString "carry" = tx [99, 97, 114, 114, 121] := lit_of (by rfl)
theorem q11 : Str.ofString "stop" = tx [115, 116, 111, 112] := lit_of (by rfl)
theorem q12 : Str.ofString "add" = tx [97, 100, 100] := lit_of (by rfl)
theorem q13 : Str.ofString "qzqz" = tx [113, 122, 113, 122] := lit_of (by rfl)
theorem q14 : Str.ofString "zqzq" = tx [122, 113, 122, 113] := lit_of (by rfl)
theorem q15 : Str.ofString "high" = tx [104, 105, 103, 104] := lit_of (by rfl)
theorem q16 : Str.ofString "right" = tx [114, 105, 103, 104, 116] := lit_of (by rfl)
theorem q17 : Str.ofString "left" = tx [108, 101, 102, 116] := lit_of (by rfl)
theorem q18 : Str.ofString "storew" = tx [115, 116, 111, 114, 101, 119] := lit_of (by rfl)
theorem q19 : Str.ofString "loadw" = tx [108, 111, 97, 100, 119] := lit_of (by rfl)
theorem q20 : Str.ofString "store" = tx [115, 116, 111, 114, 101] := lit_of (by rfl)
theorem q21 : Str.ofString "load" = tx [108, 111, 97, 100] := lit_of (by rfl)
theorem q22 : Str.ofString "test" = tx [116, 101, 115, 116] := lit_of (by rfl)
theorem q23 : Str.ofString "xor" = tx [120, 111, 114] := lit_of (by rfl)
theorem q24 : Str.ofString "or" = tx [111, 114] := lit_of (by rfl)
theorem q25 : Str.ofString "and" = tx [97, 110, 100] := lit_of (by rfl)
theorem q26 : Str.ofString "subc" = tx [115, 117, 98, 99] := lit_of (by rfl)
theorem q27 : Str.ofString "sub" = tx [115, 117, 98] := lit_of (by rfl)
theorem q28 : Str.ofString "addc" = tx [97, 100, 100, 99] := lit_of (by rfl)
theorem q29 : Str.ofString "copy" = tx [99, 111, 112, 121] := lit_of (by rfl)
theorem q30 : Str.ofString "name" = tx [110, 97, 109, 101] := lit_of (by rfl)
theorem q31 : Str.ofString "mark" = tx [109, 97, 114, 107] := lit_of (by rfl)
theorem q32 : Str.ofString "unless" = tx [117, 110, 108, 101, 115, 115] := lit_of (by rfl)
theorem q33 : Str.ofString "nought" = tx [110, 111, 117, 103, 104, 116] := lit_of (by rfl)
theorem q34 : Str.ofString "zz" = tx [122, 122] := lit_of (by rfl)
theorem q35 : Str.ofString "a" = tx [97] := lit_of (by rfl)
theorem q36 : Str.ofString "strange" = tx [115, 116, 114, 97, 110, 103, 101] := lit_of (by rfl)
theorem q37 : Str.ofString "y" = tx [121] := lit_of (by rfl)
theorem q38 : Str.ofString "x" = tx [120] := lit_of (by rfl)
def top (i : Nat) : Stmt := PySem.Challenge.pw_markrun_k11_rows_and_places.main.body.getD i (.Pass ⟨0, 0, 0, 0⟩)
structure Txt (G : Cts) (mg : Str → Option Value) : Prop where
  b_ValueError : mg "ValueError" = none
  b_all : mg "all" = none
  b_bool : mg "bool" = none
  b_int : mg "int" = none
  b_isinstance : mg "isinstance" = none
  b_len : mg "len" = none
  b_list : mg "list" = none
  b_range : mg "range" = none
  b_str : mg "str" = none
  b_tuple : mg "tuple" = none
  e_RunError : ExAt G mg "RunError" 0
  e_BadNumber : ExAt G mg "BadNumber" 1
  e_BadText : ExAt G mg "BadText" 2
  e_NoLabel : ExAt G mg "NoLabel" 3
  e_BadWords : ExAt G mg "BadWords" 4
  e_BadState : ExAt G mg "BadState" 5
  e_NoAddress : ExAt G mg "NoAddress" 6
  err : ErrG G 7
theorem Txt.at {G : Cts} {mg : Str → Option Value} (T : Txt G mg) (a : Addr) (e : Nat) : Txt (G.at a e) mg := ⟨T.b_ValueError, T.b_all, T.b_bool, T.b_int, T.b_isinstance, T.b_len, T.b_list, T.b_range, T.b_str, T.b_tuple, T.e_RunError, T.e_BadNumber, T.e_BadText, T.e_NoLabel, T.e_BadWords, T.e_BadState, T.e_NoAddress, T.err.at a e⟩
section
variable {P : Program} {w : World} {mg : Str → Option Value} {base : Heap} {G : Cts}
abbrev s_rows_of : Stmt := top 9
theorem c_rows_of (T : Txt G mg) (A0 : FnAt G mg "rows_of" s_rows_of)  : Cal G P w mg base 1 "rows_of" ["items"] F_rows_of := by
  obtain ⟨f, fd, F, hm⟩ := A0.at'
  have sc : FnScope ["items", "item"] ["items"] (defScope s_rows_of) := ⟨rfl, rfl, rfl, by decide +kernel, rfl, by decide +kernel, by decide +kernel⟩
  refine ⟨fun ds h => if_neg h, f, fd, fn_den (k := 0) F sc (by decide) fun cdv A outer s H E' hr tk hp => ?_, hm, F.kp, F.binds fun _ _ _ _ _ _ us hl => match us, hl with | [_], _ => rfl, F.lk⟩
  have hu := hr.units
  have hu1 := hu_of hr
  exact (px_one' (px_ret (px_lc (own := [("item", 1)]) (fun _ _ _ => tgN_len) rfl sc.nd (pi_ofSeq (px_var (pv 0))) (blkOk_by (own := [("item", 1)]) (N := ["items", "item"]) (sc := defScope s_rows_of) (by decide +kernel)) (fun _ _ _ _ _ => (pgo_of (pg_name (i := 1) sc.nd rfl (by first | exact .inl rfl | exact .inr rfl)) (by decide))) (fun _ _ _ _ _ => (pts_of1 (pt_of_cmp (op_neP hu) op2_ne (px_ix hu1 (px_var (pv 1)) px_int) (px_strL q0) (nomark _)))) (fun _ _ _ _ _ => (px_var (pv 1))))))

abbrev s_places_of : Stmt := top 10
theorem c_places_of (T : Txt G mg) (A0 : FnAt G mg "places_of" s_places_of)  : Cal G P w mg base 1 "places_of" ["items"] F_places_of := by
  obtain ⟨f, fd, F, hm⟩ := A0.at'
  have sc : FnScope ["items", "places", "number", "item"] ["items"] (defScope s_places_of) := ⟨rfl, rfl, rfl, by decide +kernel, rfl, by decide +kernel, by decide +kernel⟩
  refine ⟨fun ds h => if_neg h, f, fd, fn_den (k := 0) F sc (by decide) fun cdv A outer s H E' hr tk hp => ?_, hm, F.kp, F.binds fun _ _ _ _ _ _ us hl => match us, hl with | [_], _ => rfl, F.lk⟩
  have hu := hr.units
  have hu1 := hu_of hr
  exact (px_seq (px_asg (ps_set (i := 1) sc.nd rfl (.inl rfl) px_dct0))
  (px_seq (px_asg (ps_set (i := 2) sc.nd rfl (.inl rfl) px_int))
  (px_seq (px_for hp rfl (pi_ofSeq (px_var (pv 0))) (pg_of (pg_name (i := 3) sc.nd rfl (.inl rfl))) (px_one' (px_ifs (pt_of_cmp (op_eqP hu) op2_eq (px_ix hu1 (px_var (pv 3)) px_int) (px_strL q0) (nomark _)) (px_one' (px_setI (ps_asg (px_var (pv 2)) (pg_sub (pv 1) (px_ix hu1 (px_var (pv 3)) px_int) set_list)) (ps_dput hu1 (pv 1) (px_ix hu1 (px_var (pv 3)) px_int) (px_var (pv 2)) rfl))) (px_one' (px_aug op2_addIS (ps_aug (i := 2) sc.nd rfl (.inl rfl) px_int ip_addIS))))))
  (px_one' (px_retV (pv 1))))))

abbrev s_place_of : Stmt := top 11
theorem c_place_of (T : Txt G mg) (A0 : FnAt G mg "place_of" s_place_of) (c_places_of : Cal G P w mg base 1 "places_of" ["items"] F_places_of) : Cal G P w mg base 2 "place_of" ["items", "name"] F_place_of := by
  obtain ⟨f, fd, F, hm⟩ := A0.at'
  have sc : FnScope ["items", "name", "places"] ["items", "name"] (defScope s_place_of) := ⟨rfl, rfl, rfl, by decide +kernel, rfl, by decide +kernel, by decide +kernel⟩
  refine ⟨fun ds h => if_neg h, f, fd, fn_den (k := 1) F sc (by decide) fun cdv A outer s H E' hr tk hp => ?_, hm, F.kp, F.binds fun _ _ _ _ _ _ us hl => match us, hl with | [_, _], _ => rfl, F.lk⟩
  have hu := hr.units
  have hu1 := hu_of hr
  exact (px_seq (px_asg (ps_set (i := 2) sc.nd rfl (.inl rfl) (px_call c_places_of hr (by decide) (by rfl) tk (px_cons (px_var (pv 0)) px_nil))))
  (px_seq (px_ifs (pt_notIn hu (px_var (pv 1)) (px_var (pv 2)) rfl) (px_one' (px_rs rfl tk T.e_NoLabel (by rfl))) px_pnil)
  (px_one' (px_retIx hu1 (pv 2) (px_var (pv 1))))))

abbrev s__law_cell_at : Stmt := top 13
theorem c__law_cell_at (T : Txt G mg) (A0 : FnAt G mg "_law_cell_at" s__law_cell_at)  : Cal G P w mg base 1 "_law_cell_at" ["_law_script", "_law_k"] F__law_cell_at := by
  obtain ⟨f, fd, F, hm⟩ := A0.at'
  have sc : FnScope ["_law_script", "_law_k"] ["_law_script", "_law_k"] (defScope s__law_cell_at) := ⟨rfl, rfl, rfl, by decide +kernel, rfl, by decide +kernel, by decide +kernel⟩
  refine ⟨fun ds h => if_neg h, f, fd, fn_den (k := 0) F sc (by decide) fun cdv A outer s H E' hr tk hp => ?_, hm, F.kp, F.binds fun _ _ _ _ _ _ us hl => match us, hl with | [_, _], _ => rfl, F.lk⟩
  have hu := hr.units
  have hu1 := hu_of hr
  exact (px_seq (px_ifs (pt_of_cmp op_lt op2_lt (px_var (pv 1)) (px_fn (pe_callB call_lenA (by rfl) T.b_len (by decide +kernel) (px_cons (px_var (pv 0)) px_nil)) opn_len) (nomark _)) (px_one' (px_retIx hu1 (pv 0) (px_var (pv 1)))) px_pnil)
  (px_one' (px_ret px_int)))

abbrev s__law_whole : Stmt := top 14
theorem c__law_whole (T : Txt G mg) (A0 : FnAt G mg "_law_whole" s__law_whole)  : Cal G P w mg base 1 "_law_whole" ["_law_found"] F__law_whole := by
  obtain ⟨f, fd, F, hm⟩ := A0.at'
  have sc : FnScope ["_law_found"] ["_law_found"] (defScope s__law_whole) := ⟨rfl, rfl, rfl, by decide +kernel, rfl, by decide +kernel, by decide +kernel⟩
  refine ⟨fun ds h => if_neg h, f, fd, fn_den (k := 0) F sc (by decide) fun cdv A outer s H E' hr tk hp => ?_, hm, F.kp, F.binds fun _ _ _ _ _ _ us hl => match us, hl with | [_], _ => rfl, F.lk⟩
  exact (px_one' (px_ret (px_and (px_fn (pe_callB call_isi (by rfl) T.b_isinstance (by decide +kernel) (px_cons (px_var (pv 0)) (px_cons (px_bty (by rfl) T.b_int (by decide +kernel)) px_nil))) opn_isi) (px_one (px_not (px_fn (pe_callB call_isi (by rfl) T.b_isinstance (by decide +kernel) (px_cons (px_var (pv 0)) (px_cons (px_bty (by rfl) T.b_bool (by decide +kernel)) px_nil))) opn_isi))))))

abbrev s__law_mixed : Stmt := top 15
theorem c__law_mixed (T : Txt G mg) (A0 : FnAt G mg "_law_mixed" s__law_mixed)  : Cal G P w mg base 1 "_law_mixed" ["_law_cell", "_law_k", "_law_many"] F__law_mixed := by
  obtain ⟨f, fd, F, hm⟩ := A0.at'
  have sc : FnScope ["_law_cell", "_law_k", "_law_many", "_law_some", "_law_made"] ["_law_cell", "_law_k", "_law_many"] (defScope s__law_mixed) := ⟨rfl, rfl, rfl, by decide +kernel, rfl, by decide +kernel, by decide +kernel⟩
  refine ⟨fun ds h => if_neg h, f, fd, fn_den (k := 0) F sc (by decide) fun cdv A outer s H E' hr tk hp => ?_, hm, F.kp, F.binds fun _ _ _ _ _ _ us hl => match us, hl with | [_, _, _], _ => rfl, F.lk⟩
  have hu := hr.units
  have hu1 := hu_of hr
  exact (px_seq (px_asg (ps_set (i := 3) sc.nd rfl (.inl rfl) (px_lst (px_cons px_int (px_cons px_int (px_cons px_int (px_cons px_int (px_cons px_int (px_cons px_int (px_cons px_int (px_cons px_int (px_cons px_int (px_cons px_int (px_cons px_int px_nil))))))))))))))
  (px_seq (px_asg (ps_set (i := 4) sc.nd rfl (.inl rfl) (px_bin op_mod op2_mod (px_bin op_mulX op2_mulI (px_add (px_var (pv 0)) (px_bin op_mulX op2_mulI px_int (px_var (pv 1)))) px_int) (px_ix hu1 (px_var (pv 3)) (px_bin op_mod op2_mod (px_var (pv 1)) px_int)))))
  (px_one' (px_ret (px_bin op_mod op2_mod (px_bin op_mod op2_mod (px_add (px_add (px_bin op_mulX op2_mulI (px_bin op_mulX op2_mulI (px_var (pv 4)) (px_var (pv 4))) px_int) (px_var (pv 4))) (px_var (pv 1))) px_int) (px_var (pv 2)))))))

abbrev s__law_class : Stmt := top 16
theorem c__law_class (T : Txt G mg) (A0 : FnAt G mg "_law_class" s__law_class)  : CalE G P w mg base 1 7 "_law_class" ["_law_e"] F__law_class := by
  obtain ⟨f, fd, F, hm⟩ := A0.at'
  have sc : FnScope ["_law_e", "_law_words_here"] ["_law_e"] (defScope s__law_class) := ⟨rfl, rfl, rfl, by decide +kernel, rfl, by decide +kernel, by decide +kernel⟩
  refine ⟨f, fd, fn_denE (k := 0) F sc (by decide) fun a e cdv A outer s H E' oe hr Z => ?_, hm, F.kp, F.binds fun _ _ _ _ _ _ us hl => match us, hl with | [_], _ => rfl, rfl⟩
  have T := T.at a e
  have hu := hr.units
  have hu1 := huH hr
  exact (px_seq (px_asg (ps_set (i := 1) sc.nd rfl (.inl rfl) (px_lst px_nil)))
  (px_seq (px_ifs (pt_tru (px_isE Z T.err (by decide) (pv 0) T.e_BadNumber (by rfl) (by rfl) T.b_isinstance)) (px_one' (px_app (ps_expr (pe_bm PySem.F.plainAttrs_list PySem.F.slot_list_append PySem.F.type_list_append mt_append (pv 1) (px_cons (px_strL q1) px_nil))))) px_pnil)
  (px_seq (px_ifs (pt_tru (px_isE Z T.err (by decide) (pv 0) T.e_BadText (by rfl) (by rfl) T.b_isinstance)) (px_one' (px_app (ps_expr (pe_bm PySem.F.plainAttrs_list PySem.F.slot_list_append PySem.F.type_list_append mt_append (pv 1) (px_cons (px_strL q2) px_nil))))) px_pnil)
  (px_seq (px_ifs (pt_tru (px_isE Z T.err (by decide) (pv 0) T.e_NoLabel (by rfl) (by rfl) T.b_isinstance)) (px_one' (px_app (ps_expr (pe_bm PySem.F.plainAttrs_list PySem.F.slot_list_append PySem.F.type_list_append mt_append (pv 1) (px_cons (px_strL q0) px_nil))))) px_pnil)
  (px_seq (px_ifs (PW.pt (pw_ofOr (pt_tru (px_isE Z T.err (by decide) (pv 0) T.e_BadWords (by rfl) (by rfl) T.b_isinstance)) (pw_ofOr (pt_tru (px_isE Z T.err (by decide) (pv 0) T.e_BadState (by rfl) (by rfl) T.b_isinstance)) (pw_of1o (pt_tru (px_isE Z T.err (by decide) (pv 0) T.e_NoAddress (by rfl) (by rfl) T.b_isinstance)))))) (px_one' (px_app (ps_expr (pe_bm PySem.F.plainAttrs_list PySem.F.slot_list_append PySem.F.type_list_append mt_append (pv 1) (px_cons (px_strL q3) px_nil))))) px_pnil)
  (px_seq (px_ifs (PW.pt (pw_ofAnd (pt_of_cmp (op_eqP hu) op2_eq (px_fn (pe_callB call_lenA (by rfl) T.b_len (by decide +kernel) (px_cons (px_var (pv 1)) px_nil)) opn_len) px_int (nomark _)) (pw_of1 (pt_tru (px_isV Z T.err (pv 0) (by rfl) T.b_ValueError (by rfl) T.b_isinstance))))) (px_one' (px_retIx hu1 (pv 1) px_int)) px_pnil)
  (px_one' (px_ret (px_strL q3)))))))))

abbrev s__law_letter : Stmt := top 17
theorem c__law_letter (T : Txt G mg) (A0 : FnAt G mg "_law_letter" s__law_letter)  : Cal G P w mg base 1 "_law_letter" ["_law_k"] F__law_letter := by
  obtain ⟨f, fd, F, hm⟩ := A0.at'
  have sc : FnScope ["_law_k"] ["_law_k"] (defScope s__law_letter) := ⟨rfl, rfl, rfl, by decide +kernel, rfl, by decide +kernel, by decide +kernel⟩
  refine ⟨fun ds h => if_neg h, f, fd, fn_den (k := 0) F sc (by decide) fun cdv A outer s H E' hr tk hp => ?_, hm, F.kp, F.binds fun _ _ _ _ _ _ us hl => match us, hl with | [_], _ => rfl, F.lk⟩
  have hu := hr.units
  have hu1 := hu_of hr
  exact (px_one' (px_ret (px_ix hu1 (px_strL q4) (px_bin op_mod op2_mod (px_var (pv 0)) px_int))))

abbrev s__law_names : Stmt := top 18
theorem c__law_names (T : Txt G mg) (A0 : FnAt G mg "_law_names" s__law_names) (c__law_letter : Cal G P w mg base 1 "_law_letter" ["_law_k"] F__law_letter) (c__law_mixed : Cal G P w mg base 1 "_law_mixed" ["_law_cell", "_law_k", "_law_many"] F__law_mixed) : Cal G P w mg base 2 "_law_names" ["_law_cell", "_law_many"] F__law_names := by
  obtain ⟨f, fd, F, hm⟩ := A0.at'
  have sc : FnScope ["_law_cell", "_law_many", "_law_size", "_law_spot", "_law_word", "_law_own", "_law_names_here", "_law_k", "_law_letter_here", "_law_name", "_law_others", "_law_j", "_law_one"] ["_law_cell", "_law_many"] (defScope s__law_names) := ⟨rfl, rfl, rfl, by decide +kernel, rfl, by decide +kernel, by decide +kernel⟩
  refine ⟨fun ds h => if_neg h, f, fd, fn_den (k := 1) F sc (by decide) fun cdv A outer s H E' hr tk hp => ?_, hm, F.kp, F.binds fun _ _ _ _ _ _ us hl => match us, hl with | [_, _], _ => rfl, F.lk⟩
  have hu := hr.units
  have hu1 := hu_of hr
  exact (px_seq (px_asg (ps_set (i := 2) sc.nd rfl (.inl rfl) (px_add px_int (px_call c__law_mixed hr (by decide) (by rfl) tk (px_cons (px_var (pv 0)) (px_cons px_int (px_cons px_int px_nil)))))))
  (px_seq (px_asg (ps_set (i := 3) sc.nd rfl (.inl rfl) (px_call c__law_mixed hr (by decide) (by rfl) tk (px_cons (px_var (pv 0)) (px_cons px_int (px_cons (px_var (pv 2)) px_nil))))))
  (px_seq (px_asg (ps_set (i := 4) sc.nd rfl (.inl rfl) (px_met (pe_bm PySem.F.plainAttrs_str PySem.F.slot_str_join PySem.F.type_str_join mt_join (px_strL q5) (px_cons (px_lc (own := [("_law_j", 11)]) (fun _ _ _ => tgN_len) rfl sc.nd (pi_ofRng1 (by rfl) T.b_range (px_cons px_int px_nil)) (blkOk_by (own := [("_law_j", 11)]) (N := ["_law_cell", "_law_many", "_law_size", "_law_spot", "_law_word", "_law_own", "_law_names_here", "_law_k", "_law_letter_here", "_law_name", "_law_others", "_law_j", "_law_one"]) (sc := defScope s__law_names) (by decide +kernel)) (fun _ _ _ _ _ => (pgo_of (pg_name (i := 11) sc.nd rfl (by first | exact .inl rfl | exact .inr rfl)) (by decide))) (fun _ _ _ _ _ => pts_ofNil) (fun _ _ _ _ _ => (px_call c__law_letter hr (by decide) (by rfl) tk0 (px_cons (px_call c__law_mixed hr (by decide) (by rfl) tk0 (px_cons (px_var (pv 0)) (px_cons (px_add px_int (px_var (pv 11))) (px_cons px_int px_nil)))) px_nil)))) px_nil)) opm_join)))
  (px_seq (px_asg (ps_set (i := 5) sc.nd rfl (.inl rfl) (px_lst (px_cons (px_strL q12) (px_cons (px_strL q11) (px_cons (px_strL q10) (px_cons (px_strL q0) (px_cons (px_strL q9) (px_cons (px_strL q8) (px_cons (px_strL q7) (px_cons (px_strL q6) px_nil)))))))))))
  (px_seq (px_asg (ps_set (i := 6) sc.nd rfl (.inr rfl) (px_lst px_nil)))
  (px_seq (px_for hp rfl (pi_ofRng1 (by rfl) T.b_range (px_cons (px_var (pv 1)) px_nil)) (pg_of (pg_name (i := 7) sc.nd rfl (.inl rfl))) (px_seq (px_asg (ps_set (i := 8) sc.nd rfl (.inl rfl) (px_call c__law_letter hr (by decide) (by rfl) tk (px_cons (px_add (px_call c__law_mixed hr (by decide) (by rfl) tk (px_cons (px_var (pv 0)) (px_cons px_int (px_cons px_int px_nil)))) (px_bin op_mulX op2_mulI px_int (px_var (pv 7)))) px_nil))))
  (px_seq (px_asg (ps_set (i := 9) sc.nd rfl (.inl rfl) (px_add (px_add (px_slice (px_var (pv 4)) po_no (po_at (px_var (pv 3)))) (px_var (pv 8))) (px_slice (px_var (pv 4)) (po_at (px_add (px_var (pv 3)) px_int)) (po_at (px_var (pv 2)))))))
  (px_seq (px_ifs (PW.pt (pw_ofAnd (pt_of_cmp (op_eqP hu) op2_eq (px_call c__law_mixed hr (by decide) (by rfl) tk (px_cons (px_var (pv 0)) (px_cons px_int (px_cons px_int px_nil)))) px_int (nomark _)) (pw_of1 (pt_of_cmp op_lt op2_lt (px_var (pv 7)) px_int (nomark _))))) (px_one' (px_asg (ps_set (i := 9) sc.nd rfl (.inl rfl) (px_ix hu1 (px_lst (px_cons (px_slice (px_var (pv 4)) po_no (po_at (px_add (px_var (pv 7)) px_int))) (px_cons (px_ix hu1 (px_var (pv 5)) (px_var (pv 7))) px_nil))) (px_call c__law_mixed hr (by decide) (by rfl) tk (px_cons (px_var (pv 0)) (px_cons px_int (px_cons px_int px_nil)))))))) px_pnil)
  (px_seq (px_ifs (pt_in hu (px_var (pv 9)) (px_var (pv 6)) rfl) (px_seq (px_asg (ps_set (i := 10) sc.nd rfl (.inl rfl) (px_add (px_lc (own := [("_law_j", 11)]) (fun _ _ _ => tgN_len) rfl sc.nd (pi_ofRng1 (by rfl) T.b_range (px_cons px_int px_nil)) (blkOk_by (own := [("_law_j", 11)]) (N := ["_law_cell", "_law_many", "_law_size", "_law_spot", "_law_word", "_law_own", "_law_names_here", "_law_k", "_law_letter_here", "_law_name", "_law_others", "_law_j", "_law_one"]) (sc := defScope s__law_names) (by decide +kernel)) (fun _ _ _ _ _ => (pgo_of (pg_name (i := 11) sc.nd rfl (by first | exact .inl rfl | exact .inr rfl)) (by decide))) (fun _ _ _ _ _ => pts_ofNil) (fun _ _ _ _ _ => (px_add (px_call c__law_letter hr (by decide) (by rfl) tk0 (px_cons (px_var (pv 11)) px_nil)) (px_strL q13)))) (px_lc (own := [("_law_j", 11)]) (fun _ _ _ => tgN_len) rfl sc.nd (pi_ofRng1 (by rfl) T.b_range (px_cons px_int px_nil)) (blkOk_by (own := [("_law_j", 11)]) (N := ["_law_cell", "_law_many", "_law_size", "_law_spot", "_law_word", "_law_own", "_law_names_here", "_law_k", "_law_letter_here", "_law_name", "_law_others", "_law_j", "_law_one"]) (sc := defScope s__law_names) (by decide +kernel)) (fun _ _ _ _ _ => (pgo_of (pg_name (i := 11) sc.nd rfl (by first | exact .inl rfl | exact .inr rfl)) (by decide))) (fun _ _ _ _ _ => pts_ofNil) (fun _ _ _ _ _ => (px_add (px_call c__law_letter hr (by decide) (by rfl) tk0 (px_cons (px_var (pv 11)) px_nil)) (px_strL q14)))))))
  (px_one' (px_asg (ps_set (i := 9) sc.nd rfl (.inl rfl) (px_ix hu1 (px_lc (own := [("_law_one", 12)]) (fun _ _ _ => tgN_len) rfl sc.nd (pi_ofSeq (px_var (pv 10))) (blkOk_by (own := [("_law_one", 12)]) (N := ["_law_cell", "_law_many", "_law_size", "_law_spot", "_law_word", "_law_own", "_law_names_here", "_law_k", "_law_letter_here", "_law_name", "_law_others", "_law_j", "_law_one"]) (sc := defScope s__law_names) (by decide +kernel)) (fun _ _ _ _ _ => (pgo_of (pg_name (i := 12) sc.nd rfl (by first | exact .inl rfl | exact .inr rfl)) (by decide))) (fun _ _ _ _ _ => (pts_of1 (pt_notIn hu (px_var (pv 12)) (px_var (pv 6)) rfl))) (fun _ _ _ _ _ => (px_var (pv 12)))) px_int))))) px_pnil)
  (px_one' (px_app (ps_expr (pe_bm PySem.F.plainAttrs_list PySem.F.slot_list_append PySem.F.type_list_append mt_append (pv 6) (px_cons (px_var (pv 9)) px_nil))))))))))
  (px_one' (px_retV (pv 6)))))))))

abbrev s__law_shape : Stmt := top 19
theorem c__law_shape (T : Txt G mg) (A0 : FnAt G mg "_law_shape" s__law_shape)  : Cal G P w mg base 1 "_law_shape" ["_law_word"] F__law_shape := by
  obtain ⟨f, fd, F, hm⟩ := A0.at'
  have sc : FnScope ["_law_word"] ["_law_word"] (defScope s__law_shape) := ⟨rfl, rfl, rfl, by decide +kernel, rfl, by decide +kernel, by decide +kernel⟩
  refine ⟨fun ds h => if_neg h, f, fd, fn_den (k := 0) F sc (by decide) fun cdv A outer s H E' hr tk hp => ?_, hm, F.kp, F.binds fun _ _ _ _ _ _ us hl => match us, hl with | [_], _ => rfl, F.lk⟩
  have hu := hr.units
  have hu1 := hu_of hr
  exact (px_seq (px_ifs (pt_in hu (px_var (pv 0)) (px_lst (px_cons (px_strL q8) (px_cons (px_strL q15) px_nil))) rfl) (px_one' (px_ret (px_lst (px_cons px_int (px_cons px_int px_nil))))) px_pnil)
  (px_seq (px_ifs (pt_in hu (px_var (pv 0)) (px_lst (px_cons (px_strL q17) (px_cons (px_strL q16) px_nil))) rfl) (px_one' (px_ret (px_lst (px_cons px_int (px_cons px_int px_nil))))) px_pnil)
  (px_seq (px_ifs (pt_in hu (px_var (pv 0)) (px_lst (px_cons (px_strL q21) (px_cons (px_strL q20) (px_cons (px_strL q19) (px_cons (px_strL q18) px_nil))))) rfl) (px_one' (px_ret (px_lst (px_cons px_int (px_cons px_int (px_cons px_int px_nil)))))) px_pnil)
  (px_seq (px_ifs (pt_in hu (px_var (pv 0)) (px_lst (px_cons (px_strL q29) (px_cons (px_strL q12) (px_cons (px_strL q28) (px_cons (px_strL q27) (px_cons (px_strL q26) (px_cons (px_strL q25) (px_cons (px_strL q24) (px_cons (px_strL q23) (px_cons (px_strL q22) px_nil)))))))))) rfl) (px_one' (px_ret (px_lst (px_cons px_int (px_cons px_int px_nil))))) px_pnil)
  (px_one' (px_ret (px_ix hu1 (px_dct (kfs := [(.inr (tx [108, 97, 98, 101, 108]), (eLst (eCons (eC (.str (tx [110, 97, 109, 101]))) eNil))), (.inr (tx [106, 117, 109, 112]), (eLst (eCons (eC (.str (tx [110, 97, 109, 101]))) eNil))), (.inr (tx [119, 104, 101, 110]), (eLst (eCons (eC (.str (tx [109, 97, 114, 107]))) (eCons (eC (.str (tx [110, 97, 109, 101]))) eNil)))), (.inr (tx [117, 110, 108, 101, 115, 115]), (eLst (eCons (eC (.str (tx [109, 97, 114, 107]))) (eCons (eC (.str (tx [110, 97, 109, 101]))) eNil)))), (.inr (tx [115, 116, 111, 112]), (eLst eNil))]) (pps_cons (pe_strL q0) (px_lst (px_cons (px_strL q30) px_nil)) (pps_cons (pe_strL q9) (px_lst (px_cons (px_strL q30) px_nil)) (pps_cons (pe_strL q6) (px_lst (px_cons (px_strL q31) (px_cons (px_strL q30) px_nil))) (pps_cons (pe_strL q32) (px_lst (px_cons (px_strL q31) (px_cons (px_strL q30) px_nil))) (pps_cons (pe_strL q11) (px_lst px_nil) pps_nil)))))) (px_var (pv 0)))))))))

abbrev s__law_words : Stmt := top 20
theorem c__law_words (T : Txt G mg) (A0 : FnAt G mg "_law_words" s__law_words)  : Cal G P w mg base 1 "_law_words" [] F__law_words := by
  obtain ⟨f, fd, F, hm⟩ := A0.at'
  have sc : FnScope ["_law_some"] [] (defScope s__law_words) := ⟨rfl, rfl, rfl, by decide +kernel, rfl, by decide +kernel, by decide +kernel⟩
  refine ⟨fun ds h => if_neg h, f, fd, fn_den (k := 0) F sc (by decide) fun cdv A outer s H E' hr tk hp => ?_, hm, F.kp, F.binds fun _ _ _ _ _ _ us hl => match us, hl with | [], _ => rfl, F.lk⟩
  exact (px_seq (px_asg (ps_set (i := 0) sc.nd rfl (.inl rfl) (px_lst (px_cons (px_strL q8) (px_cons (px_strL q15) (px_cons (px_strL q29) (px_cons (px_strL q12) (px_cons (px_strL q28) (px_cons (px_strL q27) (px_cons (px_strL q26) (px_cons (px_strL q25) (px_cons (px_strL q24) (px_cons (px_strL q23) (px_cons (px_strL q22) (px_cons (px_strL q17) (px_cons (px_strL q16) (px_cons (px_strL q21) px_nil)))))))))))))))))
  (px_one' (px_ret (px_add (px_var (pv 0)) (px_lst (px_cons (px_strL q20) (px_cons (px_strL q19) (px_cons (px_strL q18) (px_cons (px_strL q9) (px_cons (px_strL q6) (px_cons (px_strL q32) (px_cons (px_strL q11) px_nil))))))))))))

abbrev s__law_part_by : Stmt := top 21
theorem c__law_part_by (T : Txt G mg) (A0 : FnAt G mg "_law_part_by" s__law_part_by) (c__law_mixed : Cal G P w mg base 1 "_law_mixed" ["_law_cell", "_law_k", "_law_many"] F__law_mixed) : Cal G P w mg base 2 "_law_part_by" ["_law_kind", "_law_cell", "_law_k", "_law_names_here"] F__law_part_by := by
  obtain ⟨f, fd, F, hm⟩ := A0.at'
  have sc : FnScope ["_law_kind", "_law_cell", "_law_k", "_law_names_here"] ["_law_kind", "_law_cell", "_law_k", "_law_names_here"] (defScope s__law_part_by) := ⟨rfl, rfl, rfl, by decide +kernel, rfl, by decide +kernel, by decide +kernel⟩
  refine ⟨fun ds h => if_neg h, f, fd, fn_den (k := 1) F sc (by decide) fun cdv A outer s H E' hr tk hp => ?_, hm, F.kp, F.binds fun _ _ _ _ _ _ us hl => match us, hl with | [_, _, _, _], _ => rfl, F.lk⟩
  have hu := hr.units
  have hu1 := hu_of hr
  exact (px_seq (px_ifs (pt_of_cmp (op_eqP hu) op2_eq (px_var (pv 0)) (px_strL q30) (nomark _)) (px_one' (px_retIx hu1 (pv 3) (px_call c__law_mixed hr (by decide) (by rfl) tk (px_cons (px_var (pv 1)) (px_cons (px_var (pv 2)) (px_cons (px_fn (pe_callB call_lenA (by rfl) T.b_len (by decide +kernel) (px_cons (px_var (pv 3)) px_nil)) opn_len) px_nil)))))) px_pnil)
  (px_seq (px_ifs (pt_of_cmp (op_eqP hu) op2_eq (px_var (pv 0)) (px_strL q31) (nomark _)) (px_one' (px_ret (px_ix hu1 (px_lst (px_cons (px_strL q10) (px_cons (px_strL q33) (px_cons (px_strL q7) px_nil)))) (px_call c__law_mixed hr (by decide) (by rfl) tk (px_cons (px_var (pv 1)) (px_cons (px_var (pv 2)) (px_cons px_int px_nil))))))) px_pnil)
  (px_one' (px_ret (px_ix hu1 (px_lst (px_cons px_int (px_cons (px_bin op_sub op2_sub (px_var (pv 0)) px_int) (px_cons (px_call c__law_mixed hr (by decide) (by rfl) tk (px_cons (px_var (pv 1)) (px_cons (px_var (pv 2)) (px_cons (px_var (pv 0)) px_nil)))) (px_cons (px_call c__law_mixed hr (by decide) (by rfl) tk (px_cons (px_var (pv 1)) (px_cons (px_add (px_var (pv 2)) px_int) (px_cons (px_var (pv 0)) px_nil)))) px_nil))))) (px_call c__law_mixed hr (by decide) (by rfl) tk (px_cons (px_var (pv 1)) (px_cons (px_add (px_var (pv 2)) px_int) (px_cons px_int px_nil)))))))))

abbrev s__law_row_by : Stmt := top 22
theorem c__law_row_by (T : Txt G mg) (A0 : FnAt G mg "_law_row_by" s__law_row_by) (c__law_mixed : Cal G P w mg base 1 "_law_mixed" ["_law_cell", "_law_k", "_law_many"] F__law_mixed) (c__law_part_by : Cal G P w mg base 2 "_law_part_by" ["_law_kind", "_law_cell", "_law_k", "_law_names_here"] F__law_part_by) (c__law_shape : Cal G P w mg base 1 "_law_shape" ["_law_word"] F__law_shape) (c__law_words : Cal G P w mg base 1 "_law_words" [] F__law_words) : Cal G P w mg base 3 "_law_row_by" ["_law_cell", "_law_names_here"] F__law_row_by := by
  obtain ⟨f, fd, F, hm⟩ := A0.at'
  have sc : FnScope ["_law_cell", "_law_names_here", "_law_word", "_law_shape_here", "_law_k"] ["_law_cell", "_law_names_here"] (defScope s__law_row_by) := ⟨rfl, rfl, rfl, by decide +kernel, rfl, by decide +kernel, by decide +kernel⟩
  refine ⟨fun ds h => if_neg h, f, fd, fn_den (k := 2) F sc (by decide) fun cdv A outer s H E' hr tk hp => ?_, hm, F.kp, F.binds fun _ _ _ _ _ _ us hl => match us, hl with | [_, _], _ => rfl, F.lk⟩
  have hu := hr.units
  have hu1 := hu_of hr
  exact (px_seq (px_asg (ps_set (i := 2) sc.nd rfl (.inl rfl) (px_ix hu1 (px_call0 c__law_words hr (by decide) (by rfl)) (px_call c__law_mixed hr (by decide) (by rfl) tk (px_cons (px_var (pv 0)) (px_cons px_int (px_cons px_int px_nil)))))))
  (px_seq (px_ifs (pt_of_cmp (op_eqP hu) op2_eq (px_call c__law_mixed hr (by decide) (by rfl) tk (px_cons (px_var (pv 0)) (px_cons px_int (px_cons px_int px_nil)))) px_int (nomark _)) (px_one' (px_asg (ps_set (i := 2) sc.nd rfl (.inl rfl) (px_ix hu1 (px_lst (px_cons (px_strL q9) (px_cons (px_strL q6) (px_cons (px_strL q32) px_nil)))) (px_call c__law_mixed hr (by decide) (by rfl) tk (px_cons (px_var (pv 0)) (px_cons px_int (px_cons px_int px_nil)))))))) px_pnil)
  (px_seq (px_ifs (PW.pt (pw_ofAnd (pt_in hu (px_var (pv 2)) (px_lst (px_cons (px_strL q9) (px_cons (px_strL q6) (px_cons (px_strL q32) px_nil)))) rfl) (pw_of1 (pt_of_cmp (op_eqP hu) op2_eq (px_fn (pe_callB call_lenA (by rfl) T.b_len (by decide +kernel) (px_cons (px_var (pv 1)) px_nil)) opn_len) px_int (nomark _))))) (px_one' (px_asg (ps_set (i := 2) sc.nd rfl (.inl rfl) (px_strL q11)))) px_pnil)
  (px_seq (px_asg (ps_set (i := 3) sc.nd rfl (.inr rfl) (px_call c__law_shape hr (by decide) (by rfl) tk (px_cons (px_var (pv 2)) px_nil))))
  (px_one' (px_ret (px_add (px_tup (px_cons (px_var (pv 2)) px_nil)) (px_tuple (pe_callTy call_tuple_of (by rfl) T.b_tuple (by decide +kernel) (px_cons (px_lc (own := [("_law_k", 4)]) (fun _ _ _ => tgN_len) rfl sc.nd (pi_ofRng1 (by rfl) T.b_range (px_cons (px_fn (pe_callB call_lenA (by rfl) T.b_len (by decide +kernel) (px_cons (px_var (pv 3)) px_nil)) opn_len) px_nil)) (blkOk_by (own := [("_law_k", 4)]) (N := ["_law_cell", "_law_names_here", "_law_word", "_law_shape_here", "_law_k"]) (sc := defScope s__law_row_by) (by decide +kernel)) (fun _ _ _ _ _ => (pgo_of (pg_name (i := 4) sc.nd rfl (by first | exact .inl rfl | exact .inr rfl)) (by decide))) (fun _ _ _ _ _ => pts_ofNil) (fun _ _ _ _ _ => (px_call c__law_part_by hr (by decide) (by rfl) tk0 (px_cons (px_ix hu1 (px_var (pv 3)) (px_var (pv 4))) (px_cons (px_var (pv 0)) (px_cons (px_add (px_bin op_mulX op2_mulI px_int (px_var (pv 4))) px_int) (px_cons (px_var (pv 1)) px_nil))))))) px_nil))))))))))

abbrev s__law_program : Stmt := top 23
theorem c__law_program (T : Txt G mg) (A0 : FnAt G mg "_law_program" s__law_program) (c__law_cell_at : Cal G P w mg base 1 "_law_cell_at" ["_law_script", "_law_k"] F__law_cell_at) (c__law_mixed : Cal G P w mg base 1 "_law_mixed" ["_law_cell", "_law_k", "_law_many"] F__law_mixed) (c__law_names : Cal G P w mg base 2 "_law_names" ["_law_cell", "_law_many"] F__law_names) (c__law_row_by : Cal G P w mg base 3 "_law_row_by" ["_law_cell", "_law_names_here"] F__law_row_by) : Cal G P w mg base 4 "_law_program" ["_law_script", "_law_first"] F__law_program := by
  obtain ⟨f, fd, F, hm⟩ := A0.at'
  have sc : FnScope ["_law_script", "_law_first", "_law_far", "_law_cells", "_law_many", "_law_names_here", "_law_items", "_law_k", "_law_cell"] ["_law_script", "_law_first"] (defScope s__law_program) := ⟨rfl, rfl, rfl, by decide +kernel, rfl, by decide +kernel, by decide +kernel⟩
  refine ⟨fun ds h => if_neg h, f, fd, fn_den (k := 3) F sc (by decide) fun cdv A outer s H E' hr tk hp => ?_, hm, F.kp, F.binds fun _ _ _ _ _ _ us hl => match us, hl with | [_, _], _ => rfl, F.lk⟩
  have hu := hr.units
  have hu1 := hu_of hr
  exact (px_seq (px_asg (ps_set (i := 2) sc.nd rfl (.inr rfl) (px_call c__law_cell_at hr (by decide) (by rfl) tk (px_cons (px_var (pv 0)) (px_cons (px_var (pv 1)) px_nil)))))
  (px_seq (px_asg (ps_set (i := 3) sc.nd rfl (.inl rfl) (px_slice (px_var (pv 0)) (po_at (px_add (px_var (pv 1)) px_int)) (po_at (px_add (px_var (pv 1)) px_int)))))
  (px_seq (px_ifs (pt_of_cmp (op_eqP hu) op2_eq (px_bin op_mod op2_mod (px_var (pv 2)) px_int) px_int (nomark _)) (px_one' (px_asg (px_setLc (i := 3) (own := [("_law_k", 7)]) (fun _ _ _ => tgN_len) rfl sc.nd rfl rfl (sw_true rfl rfl rfl (by decide +kernel)) (pi_ofRng1 (by rfl) T.b_range (px_cons (px_add px_int (px_bin op_mod op2_mod (px_bin op_fdivW op2_div (px_var (pv 2)) px_int) px_int)) px_nil)) (blkOk_by (own := [("_law_k", 7)]) (N := ["_law_script", "_law_first", "_law_far", "_law_cells", "_law_many", "_law_names_here", "_law_items", "_law_k", "_law_cell"]) (sc := defScope s__law_program) (by decide +kernel)) (fun _ _ _ _ _ => (pgo_of (pg_name (i := 7) sc.nd rfl (by first | exact .inl rfl | exact .inr rfl)) (by decide))) (fun _ _ _ _ _ => pts_ofNil) (fun _ _ _ _ _ => (px_add (px_bin op_fdivW op2_div (px_var (pv 2)) px_int) (px_bin op_mulX op2_mulI px_int (px_var (pv 7)))))))) px_pnil)
  (px_seq (px_asg (ps_set (i := 4) sc.nd rfl (.inl rfl) (px_ix hu1 (px_lst (px_cons px_int (px_cons px_int (px_cons px_int (px_cons px_int (px_cons px_int (px_cons px_int (px_cons px_int (px_cons px_int px_nil))))))))) (px_call c__law_mixed hr (by decide) (by rfl) tk (px_cons (px_var (pv 2)) (px_cons px_int (px_cons px_int px_nil)))))))
  (px_seq (px_ifs (pt_of_cmp (op_eqP hu) op2_eq (px_bin op_mod op2_mod (px_var (pv 2)) px_int) px_int (nomark _)) (px_one' (px_asg (ps_set (i := 4) sc.nd rfl (.inl rfl) px_int))) px_pnil)
  (px_seq (px_asg (ps_set (i := 5) sc.nd rfl (.inr rfl) (px_call c__law_names hr (by decide) (by rfl) tk (px_cons (px_bin op_fdivW op2_div (px_var (pv 2)) px_int) (px_cons (px_var (pv 4)) px_nil)))))
  (px_seq (px_asg (px_setLc (i := 6) (own := [("_law_cell", 8)]) (fun _ _ _ => tgN_len) rfl sc.nd rfl rfl (sw_true rfl rfl rfl (by decide +kernel)) (pi_ofSeq (px_var (pv 3))) (blkOk_by (own := [("_law_cell", 8)]) (N := ["_law_script", "_law_first", "_law_far", "_law_cells", "_law_many", "_law_names_here", "_law_items", "_law_k", "_law_cell"]) (sc := defScope s__law_program) (by decide +kernel)) (fun _ _ _ _ _ => (pgo_of (pg_name (i := 8) sc.nd rfl (by first | exact .inl rfl | exact .inr rfl)) (by decide))) (fun _ _ _ _ _ => pts_ofNil) (fun _ _ _ _ _ => (px_call c__law_row_by hr (by decide) (by rfl) tk0 (px_cons (px_var (pv 8)) (px_cons (px_var (pv 5)) px_nil))))))
  (px_seq (px_for hp rfl (pi_ofRng1 (by rfl) T.b_range (px_cons (px_fn (pe_callB call_lenA (by rfl) T.b_len (by decide +kernel) (px_cons (px_var (pv 5)) px_nil)) opn_len) px_nil)) (pg_of (pg_name (i := 7) sc.nd rfl (.inl rfl))) (px_one' (px_ins (ps_expr (pe_bm PySem.F.plainAttrs_list PySem.F.slot_list_insert PySem.F.type_list_insert mt_insert (pv 6) (px_cons (px_call c__law_mixed hr (by decide) (by rfl) tk (px_cons (px_add (px_var (pv 2)) (px_bin op_fdivW op2_div (px_var (pv 7)) px_int)) (px_cons (px_var (pv 7)) (px_cons (px_add (px_fn (pe_callB call_lenA (by rfl) T.b_len (by decide +kernel) (px_cons (px_var (pv 6)) px_nil)) opn_len) px_int) px_nil)))) (px_cons (px_tup (px_cons (px_strL q0) (px_cons (px_ix hu1 (px_var (pv 5)) (px_var (pv 7))) px_nil))) px_nil)))))))
  (px_one' (px_retV (pv 6)))))))))))

abbrev s__law_alike_r0 : Stmt := top 24
theorem c__law_alike_r0 (T : Txt G mg) (A0 : FnAt G mg "_law_alike" s__law_alike_r0) (c__law_whole : Cal G P w mg base 1 "_law_whole" ["_law_found"] F__law_whole) : Cal G P w mg base 2 "_law_alike" ["_law_found", "_law_due"] F__law_alike_r0 := by
  obtain ⟨f, fd, F, hm⟩ := A0.at'
  have sc : FnScope ["_law_found", "_law_due", "_law_k"] ["_law_found", "_law_due"] (defScope s__law_alike_r0) := ⟨rfl, rfl, rfl, by decide +kernel, rfl, by decide +kernel, by decide +kernel⟩
  refine ⟨fun ds h => if_neg h, f, fd, fn_den (k := 1) F sc (by decide) fun cdv A outer s H E' hr tk hp => ?_, hm, F.kp, F.binds fun _ _ _ _ _ _ us hl => match us, hl with | [_, _], _ => rfl, F.lk⟩
  have hu := hr.units
  have hu1 := hu_of hr
  exact (px_seq (px_ifs (pt_tru (px_isi2 (by rfl) T.b_isinstance (by rfl) T.b_tuple (by decide +kernel) (by rfl) T.b_list (by decide +kernel) (px_var (pv 1)))) (px_seq (px_ifs (PW.pt (pw_ofOr (pt_ofNot (pt_tru (px_isi2 (by rfl) T.b_isinstance (by rfl) T.b_tuple (by decide +kernel) (by rfl) T.b_list (by decide +kernel) (px_var (pv 0))))) (pw_of1o (pt_of_cmp (op_neP hu) op2_ne (px_fn (pe_callB call_isi (by rfl) T.b_isinstance (by decide +kernel) (px_cons (px_var (pv 0)) (px_cons (px_bty (by rfl) T.b_tuple (by decide +kernel)) px_nil))) opn_isi) (px_fn (pe_callB call_isi (by rfl) T.b_isinstance (by decide +kernel) (px_cons (px_var (pv 1)) (px_cons (px_bty (by rfl) T.b_tuple (by decide +kernel)) px_nil))) opn_isi) (nomark _))))) (px_one' (px_ret px_bl)) px_pnil)
  (px_one' (px_ret (px_and (px_cmp (op_eqP hu) op2_eq (px_fn (pe_callB call_lenA (by rfl) T.b_len (by decide +kernel) (px_cons (px_var (pv 0)) px_nil)) opn_len) (px_fn (pe_callB call_lenA (by rfl) T.b_len (by decide +kernel) (px_cons (px_var (pv 1)) px_nil)) opn_len) (nomark _)) (px_one (px_fn (pe_callB (cr_all rfl) (by rfl) T.b_all (by decide +kernel) (px_cons (px_lc (own := [("_law_k", 2)]) (fun _ _ _ => tgN_len) rfl sc.nd (pi_ofRng1 (by rfl) T.b_range (px_cons (px_fn (pe_callB call_lenA (by rfl) T.b_len (by decide +kernel) (px_cons (px_var (pv 1)) px_nil)) opn_len) px_nil)) (blkOk_by (own := [("_law_k", 2)]) (N := ["_law_found", "_law_due", "_law_k"]) (sc := defScope s__law_alike_r0) (by decide +kernel)) (fun _ _ _ _ _ => (pgo_of (pg_name (i := 2) sc.nd rfl (by first | exact .inl rfl | exact .inr rfl)) (by decide))) (fun _ _ _ _ _ => pts_ofNil) (fun _ _ _ _ _ => px_eBad)) px_nil)) opn_all)))))) px_pnil)
  (px_seq (px_ifs (pt_tru (px_fn (pe_callB call_isi (by rfl) T.b_isinstance (by decide +kernel) (px_cons (px_var (pv 1)) (px_cons (px_bty (by rfl) T.b_str (by decide +kernel)) px_nil))) opn_isi)) (px_one' (px_ret (px_and (px_fn (pe_callB call_isi (by rfl) T.b_isinstance (by decide +kernel) (px_cons (px_var (pv 0)) (px_cons (px_bty (by rfl) T.b_str (by decide +kernel)) px_nil))) opn_isi) (px_one (px_cmp (op_eqP hu) op2_eq (px_var (pv 0)) (px_var (pv 1)) (nomark _)))))) px_pnil)
  (px_one' (px_ret (px_and (px_call c__law_whole hr (by decide) (by rfl) tk (px_cons (px_var (pv 0)) px_nil)) (px_one (px_cmp (op_eqP hu) op2_eq (px_var (pv 0)) (px_var (pv 1)) (nomark _))))))))

abbrev s__law_alike_r1 : Stmt := top 24
theorem c__law_alike_r1 (T : Txt G mg) (A0 : FnAt G mg "_law_alike" s__law_alike_r1) (c__law_alike_r0 : Cal G P w mg base 2 "_law_alike" ["_law_found", "_law_due"] F__law_alike_r0) (c__law_whole : Cal G P w mg base 1 "_law_whole" ["_law_found"] F__law_whole) : Cal G P w mg base 3 "_law_alike" ["_law_found", "_law_due"] F__law_alike_r1 := by
  obtain ⟨f, fd, F, hm⟩ := A0.at'
  have sc : FnScope ["_law_found", "_law_due", "_law_k"] ["_law_found", "_law_due"] (defScope s__law_alike_r1) := ⟨rfl, rfl, rfl, by decide +kernel, rfl, by decide +kernel, by decide +kernel⟩
  refine ⟨fun ds h => if_neg h, f, fd, fn_den (k := 2) F sc (by decide) fun cdv A outer s H E' hr tk hp => ?_, hm, F.kp, F.binds fun _ _ _ _ _ _ us hl => match us, hl with | [_, _], _ => rfl, F.lk⟩
  have hu := hr.units
  have hu1 := hu_of hr
  exact (px_seq (px_ifs (pt_tru (px_isi2 (by rfl) T.b_isinstance (by rfl) T.b_tuple (by decide +kernel) (by rfl) T.b_list (by decide +kernel) (px_var (pv 1)))) (px_seq (px_ifs (PW.pt (pw_ofOr (pt_ofNot (pt_tru (px_isi2 (by rfl) T.b_isinstance (by rfl) T.b_tuple (by decide +kernel) (by rfl) T.b_list (by decide +kernel) (px_var (pv 0))))) (pw_of1o (pt_of_cmp (op_neP hu) op2_ne (px_fn (pe_callB call_isi (by rfl) T.b_isinstance (by decide +kernel) (px_cons (px_var (pv 0)) (px_cons (px_bty (by rfl) T.b_tuple (by decide +kernel)) px_nil))) opn_isi) (px_fn (pe_callB call_isi (by rfl) T.b_isinstance (by decide +kernel) (px_cons (px_var (pv 1)) (px_cons (px_bty (by rfl) T.b_tuple (by decide +kernel)) px_nil))) opn_isi) (nomark _))))) (px_one' (px_ret px_bl)) px_pnil)
  (px_one' (px_ret (px_and (px_cmp (op_eqP hu) op2_eq (px_fn (pe_callB call_lenA (by rfl) T.b_len (by decide +kernel) (px_cons (px_var (pv 0)) px_nil)) opn_len) (px_fn (pe_callB call_lenA (by rfl) T.b_len (by decide +kernel) (px_cons (px_var (pv 1)) px_nil)) opn_len) (nomark _)) (px_one (px_fn (pe_callB (cr_all rfl) (by rfl) T.b_all (by decide +kernel) (px_cons (px_lc (own := [("_law_k", 2)]) (fun _ _ _ => tgN_len) rfl sc.nd (pi_ofRng1 (by rfl) T.b_range (px_cons (px_fn (pe_callB call_lenA (by rfl) T.b_len (by decide +kernel) (px_cons (px_var (pv 1)) px_nil)) opn_len) px_nil)) (blkOk_by (own := [("_law_k", 2)]) (N := ["_law_found", "_law_due", "_law_k"]) (sc := defScope s__law_alike_r1) (by decide +kernel)) (fun _ _ _ _ _ => (pgo_of (pg_name (i := 2) sc.nd rfl (by first | exact .inl rfl | exact .inr rfl)) (by decide))) (fun _ _ _ _ _ => pts_ofNil) (fun _ _ _ _ _ => (px_call c__law_alike_r0 hr (by decide) (by rfl) tk0 (px_cons (px_ix hu1 (px_var (pv 0)) (px_var (pv 2))) (px_cons (px_ix hu1 (px_var (pv 1)) (px_var (pv 2))) px_nil))))) px_nil)) opn_all)))))) px_pnil)
  (px_seq (px_ifs (pt_tru (px_fn (pe_callB call_isi (by rfl) T.b_isinstance (by decide +kernel) (px_cons (px_var (pv 1)) (px_cons (px_bty (by rfl) T.b_str (by decide +kernel)) px_nil))) opn_isi)) (px_one' (px_ret (px_and (px_fn (pe_callB call_isi (by rfl) T.b_isinstance (by decide +kernel) (px_cons (px_var (pv 0)) (px_cons (px_bty (by rfl) T.b_str (by decide +kernel)) px_nil))) opn_isi) (px_one (px_cmp (op_eqP hu) op2_eq (px_var (pv 0)) (px_var (pv 1)) (nomark _)))))) px_pnil)
  (px_one' (px_ret (px_and (px_call c__law_whole hr (by decide) (by rfl) tk (px_cons (px_var (pv 0)) px_nil)) (px_one (px_cmp (op_eqP hu) op2_eq (px_var (pv 0)) (px_var (pv 1)) (nomark _))))))))

abbrev s__law_alike_r2 : Stmt := top 24
theorem c__law_alike_r2 (T : Txt G mg) (A0 : FnAt G mg "_law_alike" s__law_alike_r2) (c__law_alike_r1 : Cal G P w mg base 3 "_law_alike" ["_law_found", "_law_due"] F__law_alike_r1) (c__law_whole : Cal G P w mg base 1 "_law_whole" ["_law_found"] F__law_whole) : Cal G P w mg base 4 "_law_alike" ["_law_found", "_law_due"] F__law_alike_r2 := by
  obtain ⟨f, fd, F, hm⟩ := A0.at'
  have sc : FnScope ["_law_found", "_law_due", "_law_k"] ["_law_found", "_law_due"] (defScope s__law_alike_r2) := ⟨rfl, rfl, rfl, by decide +kernel, rfl, by decide +kernel, by decide +kernel⟩
  refine ⟨fun ds h => if_neg h, f, fd, fn_den (k := 3) F sc (by decide) fun cdv A outer s H E' hr tk hp => ?_, hm, F.kp, F.binds fun _ _ _ _ _ _ us hl => match us, hl with | [_, _], _ => rfl, F.lk⟩
  have hu := hr.units
  have hu1 := hu_of hr
  exact (px_seq (px_ifs (pt_tru (px_isi2 (by rfl) T.b_isinstance (by rfl) T.b_tuple (by decide +kernel) (by rfl) T.b_list (by decide +kernel) (px_var (pv 1)))) (px_seq (px_ifs (PW.pt (pw_ofOr (pt_ofNot (pt_tru (px_isi2 (by rfl) T.b_isinstance (by rfl) T.b_tuple (by decide +kernel) (by rfl) T.b_list (by decide +kernel) (px_var (pv 0))))) (pw_of1o (pt_of_cmp (op_neP hu) op2_ne (px_fn (pe_callB call_isi (by rfl) T.b_isinstance (by decide +kernel) (px_cons (px_var (pv 0)) (px_cons (px_bty (by rfl) T.b_tuple (by decide +kernel)) px_nil))) opn_isi) (px_fn (pe_callB call_isi (by rfl) T.b_isinstance (by decide +kernel) (px_cons (px_var (pv 1)) (px_cons (px_bty (by rfl) T.b_tuple (by decide +kernel)) px_nil))) opn_isi) (nomark _))))) (px_one' (px_ret px_bl)) px_pnil)
  (px_one' (px_ret (px_and (px_cmp (op_eqP hu) op2_eq (px_fn (pe_callB call_lenA (by rfl) T.b_len (by decide +kernel) (px_cons (px_var (pv 0)) px_nil)) opn_len) (px_fn (pe_callB call_lenA (by rfl) T.b_len (by decide +kernel) (px_cons (px_var (pv 1)) px_nil)) opn_len) (nomark _)) (px_one (px_fn (pe_callB (cr_all rfl) (by rfl) T.b_all (by decide +kernel) (px_cons (px_lc (own := [("_law_k", 2)]) (fun _ _ _ => tgN_len) rfl sc.nd (pi_ofRng1 (by rfl) T.b_range (px_cons (px_fn (pe_callB call_lenA (by rfl) T.b_len (by decide +kernel) (px_cons (px_var (pv 1)) px_nil)) opn_len) px_nil)) (blkOk_by (own := [("_law_k", 2)]) (N := ["_law_found", "_law_due", "_law_k"]) (sc := defScope s__law_alike_r2) (by decide +kernel)) (fun _ _ _ _ _ => (pgo_of (pg_name (i := 2) sc.nd rfl (by first | exact .inl rfl | exact .inr rfl)) (by decide))) (fun _ _ _ _ _ => pts_ofNil) (fun _ _ _ _ _ => (px_call c__law_alike_r1 hr (by decide) (by rfl) tk0 (px_cons (px_ix hu1 (px_var (pv 0)) (px_var (pv 2))) (px_cons (px_ix hu1 (px_var (pv 1)) (px_var (pv 2))) px_nil))))) px_nil)) opn_all)))))) px_pnil)
  (px_seq (px_ifs (pt_tru (px_fn (pe_callB call_isi (by rfl) T.b_isinstance (by decide +kernel) (px_cons (px_var (pv 1)) (px_cons (px_bty (by rfl) T.b_str (by decide +kernel)) px_nil))) opn_isi)) (px_one' (px_ret (px_and (px_fn (pe_callB call_isi (by rfl) T.b_isinstance (by decide +kernel) (px_cons (px_var (pv 0)) (px_cons (px_bty (by rfl) T.b_str (by decide +kernel)) px_nil))) opn_isi) (px_one (px_cmp (op_eqP hu) op2_eq (px_var (pv 0)) (px_var (pv 1)) (nomark _)))))) px_pnil)
  (px_one' (px_ret (px_and (px_call c__law_whole hr (by decide) (by rfl) tk (px_cons (px_var (pv 0)) px_nil)) (px_one (px_cmp (op_eqP hu) op2_eq (px_var (pv 0)) (px_var (pv 1)) (nomark _))))))))

abbrev s__law_alike_r3 : Stmt := top 24
theorem c__law_alike_r3 (T : Txt G mg) (A0 : FnAt G mg "_law_alike" s__law_alike_r3) (c__law_alike_r2 : Cal G P w mg base 4 "_law_alike" ["_law_found", "_law_due"] F__law_alike_r2) (c__law_whole : Cal G P w mg base 1 "_law_whole" ["_law_found"] F__law_whole) : Cal G P w mg base 5 "_law_alike" ["_law_found", "_law_due"] F__law_alike_r3 := by
  obtain ⟨f, fd, F, hm⟩ := A0.at'
  have sc : FnScope ["_law_found", "_law_due", "_law_k"] ["_law_found", "_law_due"] (defScope s__law_alike_r3) := ⟨rfl, rfl, rfl, by decide +kernel, rfl, by decide +kernel, by decide +kernel⟩
  refine ⟨fun ds h => if_neg h, f, fd, fn_den (k := 4) F sc (by decide) fun cdv A outer s H E' hr tk hp => ?_, hm, F.kp, F.binds fun _ _ _ _ _ _ us hl => match us, hl with | [_, _], _ => rfl, F.lk⟩
  have hu := hr.units
  have hu1 := hu_of hr
  exact (px_seq (px_ifs (pt_tru (px_isi2 (by rfl) T.b_isinstance (by rfl) T.b_tuple (by decide +kernel) (by rfl) T.b_list (by decide +kernel) (px_var (pv 1)))) (px_seq (px_ifs (PW.pt (pw_ofOr (pt_ofNot (pt_tru (px_isi2 (by rfl) T.b_isinstance (by rfl) T.b_tuple (by decide +kernel) (by rfl) T.b_list (by decide +kernel) (px_var (pv 0))))) (pw_of1o (pt_of_cmp (op_neP hu) op2_ne (px_fn (pe_callB call_isi (by rfl) T.b_isinstance (by decide +kernel) (px_cons (px_var (pv 0)) (px_cons (px_bty (by rfl) T.b_tuple (by decide +kernel)) px_nil))) opn_isi) (px_fn (pe_callB call_isi (by rfl) T.b_isinstance (by decide +kernel) (px_cons (px_var (pv 1)) (px_cons (px_bty (by rfl) T.b_tuple (by decide +kernel)) px_nil))) opn_isi) (nomark _))))) (px_one' (px_ret px_bl)) px_pnil)
  (px_one' (px_ret (px_and (px_cmp (op_eqP hu) op2_eq (px_fn (pe_callB call_lenA (by rfl) T.b_len (by decide +kernel) (px_cons (px_var (pv 0)) px_nil)) opn_len) (px_fn (pe_callB call_lenA (by rfl) T.b_len (by decide +kernel) (px_cons (px_var (pv 1)) px_nil)) opn_len) (nomark _)) (px_one (px_fn (pe_callB (cr_all rfl) (by rfl) T.b_all (by decide +kernel) (px_cons (px_lc (own := [("_law_k", 2)]) (fun _ _ _ => tgN_len) rfl sc.nd (pi_ofRng1 (by rfl) T.b_range (px_cons (px_fn (pe_callB call_lenA (by rfl) T.b_len (by decide +kernel) (px_cons (px_var (pv 1)) px_nil)) opn_len) px_nil)) (blkOk_by (own := [("_law_k", 2)]) (N := ["_law_found", "_law_due", "_law_k"]) (sc := defScope s__law_alike_r3) (by decide +kernel)) (fun _ _ _ _ _ => (pgo_of (pg_name (i := 2) sc.nd rfl (by first | exact .inl rfl | exact .inr rfl)) (by decide))) (fun _ _ _ _ _ => pts_ofNil) (fun _ _ _ _ _ => (px_call c__law_alike_r2 hr (by decide) (by rfl) tk0 (px_cons (px_ix hu1 (px_var (pv 0)) (px_var (pv 2))) (px_cons (px_ix hu1 (px_var (pv 1)) (px_var (pv 2))) px_nil))))) px_nil)) opn_all)))))) px_pnil)
  (px_seq (px_ifs (pt_tru (px_fn (pe_callB call_isi (by rfl) T.b_isinstance (by decide +kernel) (px_cons (px_var (pv 1)) (px_cons (px_bty (by rfl) T.b_str (by decide +kernel)) px_nil))) opn_isi)) (px_one' (px_ret (px_and (px_fn (pe_callB call_isi (by rfl) T.b_isinstance (by decide +kernel) (px_cons (px_var (pv 0)) (px_cons (px_bty (by rfl) T.b_str (by decide +kernel)) px_nil))) opn_isi) (px_one (px_cmp (op_eqP hu) op2_eq (px_var (pv 0)) (px_var (pv 1)) (nomark _)))))) px_pnil)
  (px_one' (px_ret (px_and (px_call c__law_whole hr (by decide) (by rfl) tk (px_cons (px_var (pv 0)) px_nil)) (px_one (px_cmp (op_eqP hu) op2_eq (px_var (pv 0)) (px_var (pv 1)) (nomark _))))))))

abbrev s__law_place : Stmt := top 25
theorem c__law_place (T : Txt G mg) (A0 : FnAt G mg "_law_place" s__law_place) (c__law_class : CalE G P w mg base 1 7 "_law_class" ["_law_e"] F__law_class) (c_place_of : Cal G P w mg base 2 "place_of" ["items", "name"] F_place_of) : Cal G P w mg base 3 "_law_place" ["_law_items", "_law_name"] F__law_place := by
  obtain ⟨f, fd, F, hm⟩ := A0.at'
  have sc : FnScope ["_law_items", "_law_name", "_law_e"] ["_law_items", "_law_name"] (defScope s__law_place) := ⟨rfl, rfl, rfl, by decide +kernel, rfl, by decide +kernel, by decide +kernel⟩
  refine ⟨fun ds h => if_neg h, f, fd, fn_den (k := 2) F sc (by decide) fun cdv A outer s H E' hr tk hp => ?_, hm, F.kp, F.binds fun _ _ _ _ _ _ us hl => match us, hl with | [_, _], _ => rfl, F.lk⟩
  exact (px_one' (px_try T.err (by decide) rfl rfl sc.nd (i := 2) rfl rfl T.e_RunError (by rfl) tk (fun W pn xe tk hp => (px_one' (px_ret (px_tup (px_cons (px_strL q5) (px_cons (px_call c_place_of hr (by decide) (by rfl) tk (px_cons (px_var (pv 0)) (px_cons (px_var (pv 1)) px_nil))) px_nil)))))) (fun a oe pn e Z => by
    have T := T.at a e
    have hr := roomH_mark hr (some (.ref a))
    have c__law_class := c__law_class.at a e
    exact (px_one' (px_ret (px_tup (px_cons (px_callE c__law_class hr (by decide) (by rfl) Z (pv 2)) (px_cons px_non px_nil))))))))

abbrev s_law : Stmt := top 26
theorem c_law (T : Txt G mg) (A0 : FnAt G mg "law" s_law) (c__law_alike_r3 : Cal G P w mg base 5 "_law_alike" ["_law_found", "_law_due"] F__law_alike_r3) (c__law_cell_at : Cal G P w mg base 1 "_law_cell_at" ["_law_script", "_law_k"] F__law_cell_at) (c__law_place : Cal G P w mg base 3 "_law_place" ["_law_items", "_law_name"] F__law_place) (c__law_program : Cal G P w mg base 4 "_law_program" ["_law_script", "_law_first"] F__law_program) (c__law_whole : Cal G P w mg base 1 "_law_whole" ["_law_found"] F__law_whole) (c_rows_of : Cal G P w mg base 1 "rows_of" ["items"] F_rows_of) : Cal G P w mg base 6 "law" ["_law_script"] F_law := by
  obtain ⟨f, fd, F, hm⟩ := A0.at'
  have sc : FnScope ["_law_script", "_law_items", "_law_handed", "_law_due", "_law_found", "_law_places", "_law_number", "_law_item", "_law_name", "_law_told", "_law_word"] ["_law_script"] (defScope s_law) := ⟨rfl, rfl, rfl, by decide +kernel, rfl, by decide +kernel, by decide +kernel⟩
  refine ⟨fun ds h => if_neg h, f, fd, fn_den (k := 5) F sc (by decide) fun cdv A outer s H E' hr tk hp => ?_, hm, F.kp, F.binds fun _ _ _ _ _ _ us hl => match us, hl with | [_], _ => rfl, F.lk⟩
  have hu := hr.units
  have hu1 := hu_of hr
  exact (px_seq (px_asg (ps_set (i := 1) sc.nd rfl (.inl rfl) (px_call c__law_program hr (by decide) (by rfl) tk (px_cons (px_var (pv 0)) (px_cons px_int px_nil)))))
  (px_seq (px_asg (ps_set (i := 2) sc.nd rfl (.inl rfl) (px_list (pe_callTy (call_lstA rfl) (by rfl) T.b_list (by decide +kernel) (px_cons (px_var (pv 1)) px_nil)))))
  (px_seq (px_asg (px_setLc (i := 3) (own := [("_law_item", 7)]) (fun _ _ _ => tgN_len) rfl sc.nd rfl rfl (sw_true rfl rfl rfl (by decide +kernel)) (pi_ofSeq (px_var (pv 1))) (blkOk_by (own := [("_law_item", 7)]) (N := ["_law_script", "_law_items", "_law_handed", "_law_due", "_law_found", "_law_places", "_law_number", "_law_item", "_law_name", "_law_told", "_law_word"]) (sc := defScope s_law) (by decide +kernel)) (fun _ _ _ _ _ => (pgo_of (pg_name (i := 7) sc.nd rfl (by first | exact .inl rfl | exact .inr rfl)) (by decide))) (fun _ _ _ _ _ => (pts_of1 (pt_of_cmp (op_neP hu) op2_ne (px_ix hu1 (px_var (pv 7)) px_int) (px_strL q0) (nomark _)))) (fun _ _ _ _ _ => (px_var (pv 7)))))
  (px_seq (px_asg (ps_set (i := 4) sc.nd rfl (.inl rfl) (px_call c_rows_of hr (by decide) (by rfl) tk (px_cons (px_var (pv 2)) px_nil))))
  (px_seq (px_ifs (PW.pt (pw_ofOr (pt_ofNot (pt_tru (px_fn (pe_callB call_isi (by rfl) T.b_isinstance (by decide +kernel) (px_cons (px_var (pv 4)) (px_cons (px_bty (by rfl) T.b_list (by decide +kernel)) px_nil))) opn_isi))) (pw_ofOr (pt_ofNot (pt_tru (px_call c__law_alike_r3 hr (by decide) (by rfl) tk (px_cons (px_var (pv 4)) (px_cons (px_var (pv 3)) px_nil))))) (pw_of1o (pt_of_cmp (op_neP hu) op2_ne (px_var (pv 2)) (px_var (pv 1)) (nomark _)))))) (px_one' (px_ret px_bl)) px_pnil)
  (px_seq (px_app (ps_expr (pe_bm PySem.F.plainAttrs_list PySem.F.slot_list_append PySem.F.type_list_append mt_append (pv 4) (px_cons (px_tup (px_cons (px_strL q11) px_nil)) px_nil))))
  (px_seq (px_asg (ps_set (i := 5) sc.nd rfl (.inl rfl) px_dct0))
  (px_seq (px_asg (ps_set (i := 6) sc.nd rfl (.inl rfl) px_int))
  (px_seq (px_forV hp rfl (pv 1) (pg_of (pg_name (i := 7) sc.nd rfl (.inl rfl))) (px_one' (px_ifs (pt_of_cmp (op_eqP hu) op2_eq (px_ix hu1 (px_var (pv 7)) px_int) (px_strL q0) (nomark _)) (px_one' (px_setI (ps_asg (px_var (pv 6)) (pg_sub (pv 5) (px_ix hu1 (px_var (pv 7)) px_int) set_list)) (ps_dput hu1 (pv 5) (px_ix hu1 (px_var (pv 7)) px_int) (px_var (pv 6)) rfl))) (px_one' (px_asg (ps_set (i := 6) sc.nd rfl (.inl rfl) (px_add (px_var (pv 6)) px_int)))))))
  (px_seq (px_forK hp rfl (pv 5) (pg_of (pg_name (i := 8) sc.nd rfl (.inl rfl))) (px_seq (px_asg (ps_set (i := 9) sc.nd rfl (.inl rfl) (px_call c__law_place hr (by decide) (by rfl) tk (px_cons (px_var (pv 2)) (px_cons (px_var (pv 8)) px_nil)))))
  (px_one' (px_ifs (PW.pt (pw_ofOr (pt_of_cmp (op_neP hu) op2_ne (px_ix hu1 (px_var (pv 9)) px_int) (px_strL q5) (nomark _)) (pw_ofOr (pt_ofNot (pt_tru (px_call c__law_whole hr (by decide) (by rfl) tk (px_cons (px_ix hu1 (px_var (pv 9)) px_int) px_nil)))) (pw_of1o (pt_of_cmp (op_neP hu) op2_ne (px_ix hu1 (px_var (pv 9)) px_int) (px_ix hu1 (px_var (pv 5)) (px_var (pv 8))) (nomark _)))))) (px_one' (px_ret px_bl)) px_pnil))))
  (px_seq (px_asg (ps_set (i := 10) sc.nd rfl (.inl rfl) (px_ix hu1 (px_lst (px_cons (px_strL q36) (px_cons (px_strL q35) (px_cons (px_strL q12) (px_cons (px_strL q11) (px_cons (px_strL q34) px_nil)))))) (px_bin op_mod op2_mod (px_call c__law_cell_at hr (by decide) (by rfl) tk (px_cons (px_var (pv 0)) (px_cons px_int px_nil))) px_int))))
  (px_seq (px_ifs (pt_of_cmp op_gt op2_gt (px_fn (pe_callB call_lenA (by rfl) T.b_len (by decide +kernel) (px_cons (px_var (pv 5)) px_nil)) opn_len) px_int (nomark _)) (px_one' (px_asg (ps_set (i := 10) sc.nd rfl (.inl rfl) (px_ix hu1 (px_lst (px_cons (px_var (pv 10)) (px_cons (px_add (px_slice (px_ix hu1 (px_list (pe_callTy (call_lstA rfl) (by rfl) T.b_list (by decide +kernel) (px_cons (px_var (pv 5)) px_nil))) px_int) po_no (po_at (px_un un_neg op1_neg px_int))) (px_strL q38)) (px_cons (px_add (px_ix hu1 (px_list (pe_callTy (call_lstA rfl) (by rfl) T.b_list (by decide +kernel) (px_cons (px_var (pv 5)) px_nil))) px_int) (px_strL q37)) px_nil)))) (px_bin op_mod op2_mod (px_bin op_fdivW op2_div (px_call c__law_cell_at hr (by decide) (by rfl) tk (px_cons (px_var (pv 0)) (px_cons px_int px_nil))) px_int) px_int))))) px_pnil)
  (px_seq (px_asg (ps_set (i := 9) sc.nd rfl (.inl rfl) (px_call c__law_place hr (by decide) (by rfl) tk (px_cons (px_var (pv 2)) (px_cons (px_var (pv 10)) px_nil)))))
  (px_seq (px_ifs (PW.pt (pw_ofAnd (pt_notIn hu (px_var (pv 10)) (px_var (pv 5)) rfl) (pw_of1 (pt_of_cmp (op_neP hu) op2_ne (px_var (pv 9)) (px_tup (px_cons (px_strL q0) (px_cons px_non px_nil))) (nomark _))))) (px_one' (px_ret px_bl)) px_pnil)
  (px_one' (px_ret (px_and (px_cmp (op_eqP hu) op2_eq (px_var (pv 2)) (px_var (pv 1)) (nomark _)) (px_one (px_call c__law_alike_r3 hr (by decide) (by rfl) tk (px_cons (px_call c_rows_of hr (by decide) (by rfl) tk (px_cons (px_var (pv 2)) px_nil)) (px_cons (px_var (pv 3)) px_nil)))))))))))))))))))))

end
end Dn
set_option Elab.async false
set_option linter.all false
set_option maxRecDepth 100000
set_option maxHeartbeats 1000000
namespace Dn
open PySem L2
/-! cells and drawn numbers -/
theorem cell_ex (ns : List Int) (k : Int) (hk : 0 ≤ k) : ∃ c, F__law_cell_at [.scr ns, .int k] = .ok (.int c) := by
  unfold F__law_cell_at B__law_cell_at
  simp [fnD_eq]
  by_cases h : k < ns.length
  · obtain ⟨x, _, e⟩ := atI_mem (xs := ns) (i := k) (by omega) (by omega)
    exact ⟨x, by simp [h, e]⟩
  · exact ⟨0, by simp [h]⟩
def cl (ns : List Int) (k : Int) : Int := match F__law_cell_at [.scr ns, .int k] with
  | .ok (.int r) => r
  | _ => 0
theorem cell_eq (ns : List Int) (k : Int) (hk : 0 ≤ k) : F__law_cell_at [.scr ns, .int k] = .ok (.int (cl ns k)) := by
  obtain ⟨c, e⟩ := cell_ex ns k hk
  unfold cl
  rw [e]
theorem mixed_ex (c k m : Int) (hk : 0 ≤ k) (hm : 0 < m) : ∃ r, F__law_mixed [.int c, .int k, .int m] = .ok (.int r) ∧ 0 ≤ r ∧ r < m := by
  unfold F__law_mixed B__law_mixed
  simp [fnD_eq, stSl_fr, stSl_sh]
  have h0 := Int.emod_nonneg k (show (11 : Int) ≠ 0 by decide)
  have h1 := Int.emod_lt_of_pos k (show (0 : Int) < 11 by decide)
  have key : ∃ n : Int, atI [D.int 99991, D.int 99989, D.int 99971, D.int 99961, D.int 99929, D.int 99923, D.int 99907, D.int 99901, D.int 99881, D.int 99877, D.int 99871] (k % 11) = some (.int n) ∧ 0 < n ∧ n < 100000 := by
    rcases eleven h0 h1 with h | h | h | h | h | h | h | h | h | h | h <;> rw [h] <;> simp
  obtain ⟨n, e, n0, n1⟩ := key
  rw [e]
  simp [n0, stSl_fr, stSl_sh]
  have q0 := Int.emod_nonneg ((c + 7 * k) * 48271) (show n ≠ 0 by omega)
  have q1 := Int.emod_lt_of_pos ((c + 7 * k) * 48271) n0
  generalize (c + 7 * k) * 48271 % n = q at q0 q1
  have s1 : -18446744073709551616 < q ∧ q < 18446744073709551616 := by omega
  simp [s1, hm]
  exact ⟨Int.emod_nonneg _ (by omega), Int.emod_lt_of_pos _ hm⟩
def mx (c k m : Int) : Int := match F__law_mixed [.int c, .int k, .int m] with
  | .ok (.int r) => r
  | _ => 0
theorem mx_eq (c k m : Int) (hk : 0 ≤ k) (hm : 0 < m) : F__law_mixed [.int c, .int k, .int m] = .ok (.int (mx c k m)) := by
  obtain ⟨r, e, _⟩ := mixed_ex c k m hk hm
  unfold mx
  rw [e]
theorem mx_0 (c k m : Int) (hk : 0 ≤ k) (hm : 0 < m) : 0 ≤ mx c k m := by
  obtain ⟨r, e, h, _⟩ := mixed_ex c k m hk hm
  unfold mx
  rw [e]
  exact h
theorem mx_lt (c k m : Int) (hk : 0 ≤ k) (hm : 0 < m) : mx c k m < m := by
  obtain ⟨r, e, _, h⟩ := mixed_ex c k m hk hm
  unfold mx
  rw [e]
  exact h
theorem mx_nat (c k m : Int) (hk : 0 ≤ k) (hm : 0 < m) : ∃ n : Nat, mx c k m = n ∧ (n : Int) < m := by
  have := mx_0 c k m hk hm
  have := mx_lt c k m hk hm
  exact ⟨(mx c k m).toNat, by omega, by omega⟩

/-! names -/
theorem letter_eq (k : Int) : F__law_letter [.int k] = .ok (.str (tx [97 + (k % 26).toNat])) := by
  unfold F__law_letter B__law_letter
  rw [fnD_eq 1 1 _ _ rfl]
  have h0 := Int.emod_nonneg k (show (26 : Int) ≠ 0 by decide)
  have h1 := Int.emod_lt_of_pos k (show (0 : Int) < 26 by decide)
  obtain ⟨n, hn⟩ : ∃ n : Nat, k % 26 = n := ⟨_, (Int.toNat_of_nonneg h0).symm⟩
  have e := abc_at n (by omega)
  simp -implicitDefEqProofs [stSl_sh, stSl_fr, hn, e, abc_len, tx_one]
theorem lett_ok (k : Int) : 97 + (k % 26).toNat ∈ abc := by
  have h0 := Int.emod_nonneg k (show (26 : Int) ≠ 0 by decide)
  have h1 := Int.emod_lt_of_pos k (show (0 : Int) < 26 by decide)
  exact abc_mem (by omega)
/-- the word that names are made of -/
def baseW (c : Int) : List Nat := (List.range 8).map fun j => 97 + (mx c (4 + (j : Nat)) 26 % 26).toNat
theorem baseW_len (c : Int) : (baseW c).length = 8 := by unfold baseW; rw [List.length_map, List.length_range]
theorem baseW_ok (c : Int) : ∀ x ∈ baseW c, x ∈ abc := by
  intro x hx
  obtain ⟨j, _, rfl⟩ := List.mem_map.mp hx
  exact lett_ok _
theorem one_flat (l : List Nat) : (l.map fun c => [c]).flatten = l := by
  induction l with
  | nil => rfl
  | cons a r ih => simpa using ih
theorem base_eq (c : Int) (ρ : Rho) (h : ρ[0]? = some (.shr (.int c))) (h1 : free ρ[11]?) : lcL (tgN 11) tYes' C__law_names_0 ρ (rngD 0 8) = .ok (((baseW c).map fun c => [c]).map fun l => .str (tx l), .fr) := by
  rw [ints_range, lcL_map (g := fun d => match d with | .int j => .str (tx [97 + (mx c (4 + j) 26 % 26).toNat]) | _ => .non)]
  · unfold baseW
    simp only [List.map_map]
    rfl
  · intro d hd
    obtain ⟨j, _, rfl⟩ := List.mem_map.mp hd
    have hl : 11 < ρ.length := by
      unfold free at h1
      split at h1
      · exact h1.elim
      · exact h1.elim
      · rename_i e _
        rcases q : ρ[11]? with _ | s
        · rw [q] at e
          exact absurd rfl e
        · exact (List.getElem?_eq_some_iff.mp q).1
    have e := mx_eq c (4 + (j : Nat)) 26 (by omega) (by decide)
    refine ⟨ρ.set 11 (.shr (.int j)), by rw [tgN_eq, stSl_sh h1], .fr, ?_, rfl⟩
    simp -implicitDefEqProofs [stSl_sh, stSl_fr, C__law_names_0, h, hl, e, letter_eq]
def moreW : List (List Nat) := ((List.range 26).map fun j => [97 + j, 113, 122, 113, 122]) ++ (List.range 26).map fun j => [97 + j, 122, 113, 122, 113]
theorem moreW_nd : moreW.Nodup := by decide
theorem moreW_ok : ∀ l ∈ moreW, isNm l := by decide
theorem moreW_len : moreW.length = 52 := by decide
theorem more1 (ρ : Rho) (s : List Nat) (hs : s.length = 4) (h1 : free ρ[11]?) : lcL (tgN 11) tYes' (eAdd (eCall F__law_letter (eCons (eVar 11) eNil)) (eC (.str (tx s)))) ρ (rngD 0 26) = .ok (((List.range 26).map fun j => (97 + j) :: s).map fun l => .str (tx l), .fr) := by
  rw [ints_range, lcL_map (g := fun d => match d with | .int j => .str (tx ((97 + (j % 26).toNat) :: s)) | _ => .non)]
  · simp only [List.map_map]
    congr 2
  · intro d hd
    obtain ⟨j, _, rfl⟩ := List.mem_map.mp hd
    have hl : 11 < ρ.length := by
      rcases q : ρ[11]? with _ | s
      · rw [q] at h1
        exact h1.elim
      · exact (List.getElem?_eq_some_iff.mp q).1
    refine ⟨ρ.set 11 (.shr (.int j)), by rw [tgN_eq, stSl_sh h1], .fr, ?_, rfl⟩
    simp -implicitDefEqProofs [stSl_sh, stSl_fr, hl, letter_eq, hs]
theorem pick (L : List (List Nat)) (hl : L.length < 52) : ∃ n r, moreW.filter (fun l => !decide (l ∈ L)) = n :: r ∧ isNm n ∧ n ∉ L := by
  cases e : moreW.filter (fun l => !decide (l ∈ L)) with
  | nil =>
    have : ∀ x ∈ moreW, x ∈ L := fun x hx => by
      have := List.filter_eq_nil_iff.mp e x hx
      simpa using this
    have := nodup_le moreW L moreW_nd this
    rw [moreW_len] at this
    omega
  | cons n r =>
    have hm : n ∈ moreW.filter (fun l => !decide (l ∈ L)) := by rw [e]; exact List.mem_cons_self
    have := List.mem_filter.mp hm
    exact ⟨n, r, rfl, moreW_ok n this.1, by simpa using this.2⟩

end Dn
set_option Elab.async false
set_option linter.all false
set_option maxRecDepth 100000
set_option maxHeartbeats 1000000
namespace Dn
open PySem L2
/-! the names of a program -/
def ownW : List (List Nat) := [[97, 100, 100], [115, 116, 111, 112], [99, 97, 114, 114, 121], [108, 97, 98, 101, 108], [106, 117, 109, 112], [115, 101, 116], [115, 105, 103, 110], [119, 104, 101, 110]]
theorem ownW_ok : ∀ l ∈ ownW, isNm l := by decide
/-- the slots ahead of a turn -/
def nameR (c m : Int) (size spot : Nat) (L : List (List Nat)) (k s8 s9 s10 : Sl) : Rho :=
  [.shr (.int c), .shr (.int m), .shr (.int size), .shr (.int spot), .shr (.str (tx (baseW c))), .own (.lst (ownW.map fun l => .str (tx l))), .own (.lst (L.map fun l => .str (tx l))), k, s8, s9, s10, .nil, .nil]
def cand1 (c : Int) (size spot : Nat) (x : Nat) : List Nat := (baseW c).take spot ++ x :: ((baseW c).drop (spot + 1)).take (size - (spot + 1))
theorem cand1_ok (c : Int) {size spot x : Nat} (h0 : spot < size) (h1 : size ≤ 8) (hx : x ∈ abc) : isNm (cand1 c size spot x) := by
  have hl := baseW_len c
  have l1 : (cand1 c size spot x).length = size := by
    unfold cand1
    simp only [List.length_append, List.length_cons, List.length_take, List.length_drop, hl]
    omega
  refine ⟨by omega, by omega, fun y hy => ?_⟩
  unfold cand1 at hy
  rcases List.mem_append.mp hy with h | h
  · exact baseW_ok c y (List.mem_of_mem_take h)
  · rcases List.mem_cons.mp h with h | h
    · rw [h]
      exact hx
    · exact baseW_ok c y (List.mem_of_mem_drop (List.mem_of_mem_take h))
theorem cand2_ok (c : Int) {k : Nat} (h : k < 8) : isNm ((baseW c).take (k + 1)) := by
  have hl := baseW_len c
  refine ⟨by rw [List.length_take, hl]; omega, by rw [List.length_take, hl]; omega, fun y hy => baseW_ok c y (List.mem_of_mem_take hy)⟩
theorem cutS_to (l : List Nat) {i : Int} (h : 0 ≤ i) : cutS (tx l) none (some i) = tx (l.take i.toNat) := by
  rw [cutS_eq, tx_cps, cut_to h]
  rfl
theorem cutS_within (l : List Nat) {i j : Int} (h : 0 ≤ i) (h1 : 0 ≤ j) : cutS (tx l) (some i) (some j) = tx ((l.drop i.toNat).take (j.toNat - i.toNat)) := by
  rw [cutS_eq, tx_cps, cut_within h h1]
  rfl
theorem turn1 (c m : Int) (size spot : Nat) (L : List (List Nat)) (k : Nat) (s8 s9 s10 : Sl) (h0 : spot < size) (h1 : size ≤ 8) (f8 : free (some s8)) (f9 : free (some s9)) :
    ∃ x, x ∈ abc ∧ (fSeq (sAsg 8 (eCall F__law_letter (eCons (eAdd (eCall F__law_mixed (eCons (eVar 0) (eCons (eC (.int 5)) (eCons (eC (.int 26)) eNil)))) (eBin oMulI (eC (.int 5)) (eVar 7))) eNil)))
      (sAsg 9 (eAdd (eAdd (eSl (eVar 4) pNo (pAt (eVar 3))) (eVar 8)) (eSl (eVar 4) (pAt (eAdd (eVar 3) (eC (.int 1)))) (pAt (eVar 2)))))) (nameR c m size spot L (.shr (.int k)) s8 s9 s10)
      = .nx (nameR c m size spot L (.shr (.int k)) (.shr (.str (tx [x]))) (.shr (.str (tx (cand1 c size spot x)))) s10) := by
  have e := mx_eq c 5 26 (by decide) (by decide)
  refine ⟨_, lett_ok (mx c 5 26 + 5 * k), ?_⟩
  have hl := baseW_len c
  have c1 := cutS_to (baseW c) (i := spot) (by omega)
  have c2 := cutS_within (baseW c) (i := spot + 1) (j := size) (by omega) (by omega)
  have t1 : ((spot : Int) + 1).toNat = spot + 1 := by omega
  rw [Int.toNat_natCast] at c1
  rw [Int.toNat_natCast, t1] at c2
  unfold nameR cand1
  have a1 : min spot 8 + 1 ≤ 1000000 := by omega
  have a2 : min spot 8 + (min (size - (spot + 1)) (8 - (spot + 1)) + 1) ≤ 1000000 := by omega
  generalize baseW c = W at hl c1 c2 ⊢
  simp -implicitDefEqProofs [stSl_sh, stSl_fr, e, letter_eq, hl, c1, c2, f8, f9, a1, a2]
  omega

theorem ownW_at {k : Nat} (h : k < 8) : ∃ l, atI (ownW.map fun l => D.str (tx l)) (k : Int) = some (.str (tx l)) ∧ isNm l := by
  have hl : k < (ownW.map fun l => D.str (tx l)).length := by rw [List.length_map]; exact h
  refine ⟨ownW[k]'h, ?_, ownW_ok _ (List.getElem_mem _)⟩
  rw [atI_nat' hl, List.getElem_map]
  rfl
theorem two_at (a b : D) (x : Int) (h0 : 0 ≤ x) (h1 : x < 2) : atI [a, b] x = some a ∨ atI [a, b] x = some b := by
  have : x = 0 ∨ x = 1 := by omega
  rcases this with h | h <;> subst h <;> simp
theorem turn2 (c m : Int) (size spot : Nat) (L : List (List Nat)) (k : Nat) (n : List Nat) (s8 s10 : Sl) (hn : isNm n) :
    ∃ n', isNm n' ∧ sIf (tAnd' (tOf (eBin oEq (eCall F__law_mixed (eCons (eVar 0) (eCons (eC (.int 6)) (eCons (eC (.int 4)) eNil)))) (eC (.int 0)))) (tOf (eBin oLt (eVar 7) (eC (.int 8))))) (sAsg 9 (eIx (eLst (eCons (eSl (eVar 4) pNo (pAt (eAdd (eVar 7) (eC (.int 1))))) (eCons (eIx (eVar 5) (eVar 7)) eNil))) (eCall F__law_mixed (eCons (eVar 0) (eCons (eC (.int 7)) (eCons (eC (.int 2)) eNil)))))) fPass
      (nameR c m size spot L (.shr (.int k)) s8 (.shr (.str (tx n))) s10) = .nx (nameR c m size spot L (.shr (.int k)) s8 (.shr (.str (tx n'))) s10) := by
  have e6 := mx_eq c 6 4 (by decide) (by decide)
  have e7 := mx_eq c 7 2 (by decide) (by decide)
  have z0 := mx_0 c 7 2 (by decide) (by decide)
  have z1 := mx_lt c 7 2 (by decide) (by decide)
  by_cases h : mx c 6 4 = 0 ∧ (k : Int) < 8
  · obtain ⟨h6, hk⟩ := h
    obtain ⟨l, hl, hl2⟩ := ownW_at (k := k) (by omega)
    have t1 := cutS_to (baseW c) (i := (k : Int) + 1) (by omega)
    rw [show ((k : Int) + 1).toNat = k + 1 by omega] at t1
    have hb := baseW_len c
    have hc := cand2_ok c (k := k) (by omega)
    rw [h6] at e6
    unfold nameR
    generalize baseW c = W at t1 hb hc ⊢
    generalize (ownW.map fun l => D.str (tx l)) = OW at hl ⊢
    rcases two_at (.str (tx (W.take (k + 1)))) (.str (tx l)) _ z0 z1 with q | q
    · refine ⟨_, hc, ?_⟩
      simp -implicitDefEqProofs [stSl_sh, stSl_fr, e6, e7, hk, t1, hl, hb, q]
    · refine ⟨_, hl2, ?_⟩
      simp -implicitDefEqProofs [stSl_sh, stSl_fr, e6, e7, hk, t1, hl, hb, q]
  · refine ⟨n, hn, ?_⟩
    unfold nameR
    by_cases h6 : mx c 6 4 = 0
    · have hk : ¬ (k : Int) < 8 := fun z => h ⟨h6, z⟩
      simp -implicitDefEqProofs [stSl_sh, stSl_fr, e6, h6, hk]
    · simp -implicitDefEqProofs [stSl_sh, stSl_fr, e6, h6]
theorem more_filter (L : List (List Nat)) (ρ : Rho) (h6 : ρ[6]? = some (.shr (.lst (L.map fun l => .str (tx l))))) (h12 : free ρ[12]?) :
    lcL (tgN 12) T__law_names_3 (eVar 12) ρ (moreW.map fun l => .str (tx l)) = .ok ((moreW.filter fun l => !decide (l ∈ L)).map fun l => .str (tx l), .fr) := by
  have hl : 12 < ρ.length := by
    rcases q : ρ[12]? with _ | s
    · rw [q] at h12
      exact h12.elim
    · exact (List.getElem?_eq_some_iff.mp q).1
  have hp : ∀ l ∈ moreW, ∃ ρ1, tgN 12 (D.str (tx l)) ρ = some ρ1 ∧ T__law_names_3 ρ1 = .ok (!decide (l ∈ L)) ∧ (eVar 12 ρ1 = .ok (.str (tx l), .sh)) := by
    intro l _
    refine ⟨ρ.set 12 (.shr (.str (tx l))), by rw [tgN_eq, stSl_sh h12], ?_, ?_⟩
    · simp -implicitDefEqProofs [stSl_sh, stSl_fr, T__law_names_3, h6, hl]
    · simp -implicitDefEqProofs [stSl_sh, stSl_fr, hl]
  clear h6 h12 hl
  generalize moreW = M at hp ⊢
  induction M with
  | nil => rfl
  | cons a r ih =>
    obtain ⟨ρ1, q1, q2, q3⟩ := hp a List.mem_cons_self
    rw [List.map_cons, lcL_cons, q1]
    simp only [q2, q3, nox_ok', R.bind_ok, md_str]
    rw [ih fun l hl => hp l (List.mem_cons_of_mem _ hl), List.filter_cons]
    cases decide (a ∈ L) <;> rfl
theorem turn3 (c m : Int) (size spot : Nat) (L : List (List Nat)) (k : Nat) (n : List Nat) (s8 s10 : Sl) (hn : isNm n) (hL : L.length < 52) (f10 : free (some s10)) :
    ∃ n' s10', free (some s10') ∧ isNm n' ∧ n' ∉ L ∧ sIf (tOf (eBin oInX (eVar 9) (eVar 6))) (fSeq (sAsg 10 (eAdd (eLc (itBy rng1 (eCons (eC (.int 26)) eNil)) (tgN 11) tYes' C__law_names_1 [11]) (eLc (itBy rng1 (eCons (eC (.int 26)) eNil)) (tgN 11) tYes' C__law_names_2 [11])))
      (sAsg 9 (eIx (eLc (itSeq (eVar 10)) (tgN 12) T__law_names_3 (eVar 12) [12]) (eC (.int 0))))) fPass
      (nameR c m size spot L (.shr (.int k)) s8 (.shr (.str (tx n))) s10) = .nx (nameR c m size spot L (.shr (.int k)) s8 (.shr (.str (tx n'))) s10') := by
  by_cases h : n ∈ L
  · obtain ⟨n', r, hp, h1, h2⟩ := pick L hL
    refine ⟨n', .own (.lst (moreW.map fun l => .str (tx l))), trivial, h1, h2, ?_⟩
    unfold nameR
    generalize (ownW.map fun l => D.str (tx l)) = OW
    have m1 : ∀ ρ : Rho, free ρ[11]? → lcL (tgN 11) tYes' C__law_names_1 ρ (rngD 0 26) = .ok (((List.range 26).map fun j => (97 + j) :: [113, 122, 113, 122]).map fun l => .str (tx l), .fr) := fun ρ f => more1 ρ [113, 122, 113, 122] rfl f
    have m2 : ∀ ρ : Rho, free ρ[11]? → lcL (tgN 11) tYes' C__law_names_2 ρ (rngD 0 26) = .ok (((List.range 26).map fun j => (97 + j) :: [122, 113, 122, 113]).map fun l => .str (tx l), .fr) := fun ρ f => more1 ρ [122, 113, 122, 113] rfl f
    have e12 : (((List.range 26).map fun j => (97 + j) :: [113, 122, 113, 122]).map fun l => D.str (tx l)) ++ (((List.range 26).map fun j => (97 + j) :: [122, 113, 122, 113]).map fun l => D.str (tx l)) = moreW.map fun l => D.str (tx l) := by
      unfold moreW
      rw [List.map_append]
    have l1 : (((List.range 26).map fun j => (97 + j) :: [113, 122, 113, 122]).map fun l => D.str (tx l)).length = 26 := by simp
    have l2 : (((List.range 26).map fun j => (97 + j) :: [122, 113, 122, 113]).map fun l => D.str (tx l)).length = 26 := by simp
    have i1 := imms_nms ((List.range 26).map fun j => (97 + j) :: [113, 122, 113, 122])
    have i2 := imms_nms ((List.range 26).map fun j => (97 + j) :: [122, 113, 122, 113])
    generalize (((List.range 26).map fun j => (97 + j) :: [113, 122, 113, 122]).map fun l => D.str (tx l)) = A1 at *
    generalize (((List.range 26).map fun j => (97 + j) :: [122, 113, 122, 113]).map fun l => D.str (tx l)) = A2 at *
    have mf := fun ρ h6 h12 => more_filter L ρ h6 h12
    rw [hp] at mf
    have im := imms_nms moreW
    have ml : ((n' :: r).map fun l => D.str (tx l)).length ≤ 1000000 := by
      rw [← hp, List.length_map]
      exact Nat.le_trans (List.length_filter_le _ _) (by rw [moreW_len]; decide)
    simp only [List.map_cons] at mf
    have ml : r.length + 1 ≤ 1000000 := by simpa using ml
    generalize (moreW.map fun l => D.str (tx l)) = M at *
    simp -implicitDefEqProofs [stSl_sh, stSl_fr, h, m1, m2, l1, l2, e12, i1, i2, im, mf, ml, f10]
  · refine ⟨n, s10, f10, hn, h, ?_⟩
    unfold nameR
    simp -implicitDefEqProofs [stSl_sh, stSl_fr, h]

theorem names_eq (c : Int) (m : Nat) (hm : m ≤ 45) : ∃ L : List (List Nat), L.length = m ∧ (∀ l ∈ L, isNm l) ∧ L.Nodup ∧ F__law_names [.int c, .int m] = .ok (.lst (L.map fun l => .str (tx l))) := by
  obtain ⟨sz, e2, z2⟩ := mx_nat c 2 8 (by decide) (by decide)
  obtain ⟨sp, e3, z3⟩ := mx_nat c 3 (1 + sz) (by decide) (by omega)
  have q2 := mx_eq c 2 8 (by decide) (by decide)
  have q3 := mx_eq c 3 (1 + sz) (by decide) (by omega)
  rw [e2] at q2
  rw [e3] at q3
  obtain ⟨ρ', h1, s, s8, s9, s10, L, f, f8, f9, f10, hl, hn, hd, rfl⟩ := forL_inv (st := tgN 7) (f := W__law_names_4) (ds := rngD 0 m) (ρ := nameR c m (1 + sz) sp [] .nil .nil .nil .nil)
    (fun i ρ => ∃ k s8 s9 s10 L, free (some k) ∧ free (some s8) ∧ free (some s9) ∧ free (some s10) ∧ L.length = i ∧ (∀ l ∈ L, isNm l) ∧ L.Nodup ∧ ρ = nameR c m (1 + sz) sp L k s8 s9 s10)
    ⟨.nil, .nil, .nil, .nil, [], trivial, trivial, trivial, trivial, rfl, (fun _ z => absurd z List.not_mem_nil), List.nodup_nil, rfl⟩ (by
      rintro i d ρ hi ⟨k, s8, s9, s10, L, f, f8, f9, f10, hl, hn, hd, rfl⟩
      rw [ints_range, List.getElem?_map] at hi
      have hi' : i < m := by
        rcases Nat.lt_or_ge i m with h | h
        · exact h
        · rw [List.getElem?_eq_none (by rw [List.length_range]; exact h)] at hi
          cases hi
      rw [List.getElem?_range hi'] at hi
      obtain rfl : d = .int i := (Option.some.inj hi).symm
      refine ⟨nameR c m (1 + sz) sp L (.shr (.int i)) s8 s9 s10, ?_, ?_⟩
      · unfold nameR
        generalize (ownW.map fun l => D.str (tx l)) = OW
        simp -implicitDefEqProofs [stSl_sh, stSl_fr, f]
      · obtain ⟨x, hx, t1⟩ := turn1 c m (1 + sz) sp L i s8 s9 s10 (by omega) (by omega) f8 f9
        obtain ⟨n2, hn2, t2⟩ := turn2 c m (1 + sz) sp L i (cand1 c (1 + sz) sp x) (.shr (.str (tx [x]))) s10 (cand1_ok c (by omega) (by omega) hx)
        obtain ⟨n3, s10', f10', hn3, hm3, t3⟩ := turn3 c m (1 + sz) sp L i n2 (.shr (.str (tx [x]))) s10 hn2 (by omega) f10
        refine ⟨nameR c m (1 + sz) sp (L ++ [n3]) (.shr (.int i)) (.shr (.str (tx [x]))) (.shr (.str (tx n3))) s10', .inl ?_, .shr (.int i), .shr (.str (tx [x])), .shr (.str (tx n3)), s10', L ++ [n3], trivial, trivial, trivial, f10', ?_, ?_, ?_, rfl⟩
        · unfold W__law_names_4
          rw [fSeq_nx2 t1, fSeq_nx t2, fSeq_nx t3]
          unfold nameR
          have : L.length < 1000000 := by omega
          generalize (ownW.map fun l => D.str (tx l)) = OW
          simp -implicitDefEqProofs [stSl_sh, stSl_fr, this]
        · rw [List.length_append, hl]; rfl
        · intro l h
          rcases List.mem_append.mp h with h | h
          · exact hn l h
          · rw [List.mem_singleton.mp h]
            exact hn3
        · refine List.nodup_append.mpr ⟨hd, List.nodup_cons.mpr ⟨by simp, List.nodup_nil⟩, fun a ha b hb => ?_⟩
          rw [List.mem_singleton.mp hb]
          exact fun z => hm3 (z ▸ ha))
  have hr : (rngD 0 m).length = m := by rw [rngD_len]
  refine ⟨L, by rw [hl, hr], hn, hd, ?_⟩
  have b0 := base_eq c
  have b1 : oJoin (.str (tx [])) [.lst (((baseW c).map fun c => [c]).map fun l => .str (tx l))] = some (.str (tx (baseW c))) := by
    have := baseW_len c
    rw [oJoin_tx, joinL_nil, one_flat]
    have e : (((baseW c).map fun c => [c]).map List.length) = List.replicate 8 1 := by
      rw [List.map_map, ← this]
      exact List.map_eq_replicate_iff.mpr fun _ _ => rfl
    rw [e, List.length_map, this]
    decide
  have bl : (((baseW c).map fun c => [c]).map fun l => D.str (tx l)).length = 8 := by rw [List.length_map, List.length_map, baseW_len]
  unfold F__law_names B__law_names
  rw [fnD_eq 2 13 _ _ rfl]
  unfold nameR at h1
  generalize (((baseW c).map fun c => [c]).map fun l => D.str (tx l)) = B8 at *
  have ow : (ownW.map fun l => D.str (tx l)) = [.str (tx [97, 100, 100]), .str (tx [115, 116, 111, 112]), .str (tx [99, 97, 114, 114, 121]), .str (tx [108, 97, 98, 101, 108]), .str (tx [106, 117, 109, 112]), .str (tx [115, 101, 116]), .str (tx [115, 105, 103, 110]), .str (tx [119, 104, 101, 110])] := rfl
  rw [ow] at h1
  have m0 : -1000000000 ≤ (m : Int) ∧ (m : Int) ≤ 1000000000 := by omega
  simp only [List.map_nil, show ((1 + sz : Nat) : Int) = 1 + sz by omega] at h1
  generalize baseW c = W at *
  simp -implicitDefEqProofs [stSl_sh, stSl_fr, q2, q3, b0, b1, bl, m0, h1]

end Dn
set_option Elab.async false
set_option linter.all false
set_option maxRecDepth 100000
set_option maxHeartbeats 1000000
namespace Dn
open PySem L2
/-! rows -/
theorem four_at (a b c d : D) (x : Int) (h0 : 0 ≤ x) (h1 : x < 4) : atI [a, b, c, d] x = some a ∨ atI [a, b, c, d] x = some b ∨ atI [a, b, c, d] x = some c ∨ atI [a, b, c, d] x = some d := by
  have : x = 0 ∨ x = 1 ∨ x = 2 ∨ x = 3 := by omega
  rcases this with h | h | h | h <;> subst h <;> simp
theorem three_at (a b c : D) (x : Int) (h0 : 0 ≤ x) (h1 : x < 3) : atI [a, b, c] x = some a ∨ atI [a, b, c] x = some b ∨ atI [a, b, c] x = some c := by
  have : x = 0 ∨ x = 1 ∨ x = 2 := by omega
  rcases this with h | h | h <;> subst h <;> simp
theorem part_num' (c k : Int) (n : Nat) (N : D) (hk : 0 ≤ k) (hn : 0 < n) : ∃ r : Nat, r < n ∧ F__law_part_by [.int n, .int c, .int k, N] = .ok (.int r) := by
  have e1 := mx_eq c k n hk (by omega)
  have e2 := mx_eq c (k + 1) n (by omega) (by omega)
  have e3 := mx_eq c (k + 2) 4 (by omega) (by omega)
  obtain ⟨a, ha, ha'⟩ := mx_nat c k n hk (by omega)
  obtain ⟨b, hb, hb'⟩ := mx_nat c (k + 1) n (by omega) (by omega)
  have q0 := mx_0 c (k + 2) 4 (by omega) (by omega)
  have q1 := mx_lt c (k + 2) 4 (by omega) (by omega)
  rw [ha] at e1
  rw [hb] at e2
  unfold F__law_part_by B__law_part_by
  rw [fnD_eq 4 4 _ _ rfl]
  have en : ((n : Int) - 1) = ((n - 1 : Nat) : Int) := by omega
  rcases four_at (.int 0) (.int ((n - 1 : Nat) : Int)) (.int a) (.int b) _ q0 q1 with q | q | q | q
  · exact ⟨0, hn, by simp -implicitDefEqProofs [stSl_sh, stSl_fr, e1, e2, e3, q, en]⟩
  · exact ⟨n - 1, by omega, by simp -implicitDefEqProofs [stSl_sh, stSl_fr, e1, e2, e3, q, en]⟩
  · exact ⟨a, by omega, by simp -implicitDefEqProofs [stSl_sh, stSl_fr, e1, e2, e3, q, en]⟩
  · exact ⟨b, by omega, by simp -implicitDefEqProofs [stSl_sh, stSl_fr, e1, e2, e3, q, en]⟩
theorem part_name (c k : Int) (L : List (List Nat)) (hk : 0 ≤ k) (hn : L ≠ []) : ∃ l ∈ L, F__law_part_by [.str (tx [110, 97, 109, 101]), .int c, .int k, .lst (L.map fun l => .str (tx l))] = .ok (.str (tx l)) := by
  have hl : 0 < L.length := List.length_pos_iff.mpr hn
  have e1 := mx_eq c k L.length hk (by omega)
  obtain ⟨a, ha, ha'⟩ := mx_nat c k L.length hk (by omega)
  rw [ha] at e1
  have ha2 : a < L.length := by omega
  have q : atI (L.map fun l => D.str (tx l)) (a : Int) = some (.str (tx L[a])) := by
    have hb : a < (L.map fun l => D.str (tx l)).length := by rw [List.length_map]; exact ha2
    rw [atI_nat' hb, List.getElem_map]
  refine ⟨L[a], List.getElem_mem _, ?_⟩
  have hm : (L.map fun l => D.str (tx l)).length = L.length := List.length_map _
  generalize (L.map fun l => D.str (tx l)) = N at *
  unfold F__law_part_by B__law_part_by
  rw [fnD_eq 4 4 _ _ rfl]
  simp -implicitDefEqProofs [stSl_sh, stSl_fr, e1, q, hm]
theorem part_mark (c k : Int) (N : D) (hk : 0 ≤ k) : ∃ m : Mrk, F__law_part_by [.str (tx [109, 97, 114, 107]), .int c, .int k, N] = .ok (.str (tx m.w)) := by
  have e1 := mx_eq c k 3 hk (by omega)
  have q0 := mx_0 c k 3 hk (by omega)
  have q1 := mx_lt c k 3 hk (by omega)
  unfold F__law_part_by B__law_part_by
  rw [fnD_eq 4 4 _ _ rfl]
  rcases three_at (.str (tx [99, 97, 114, 114, 121])) (.str (tx [110, 111, 117, 103, 104, 116])) (.str (tx [115, 105, 103, 110])) _ q0 q1 with q | q | q
  · exact ⟨.carry, by simp -implicitDefEqProofs [stSl_sh, stSl_fr, e1, q, Mrk.w]⟩
  · exact ⟨.nought, by simp -implicitDefEqProofs [stSl_sh, stSl_fr, e1, q, Mrk.w]⟩
  · exact ⟨.sign, by simp -implicitDefEqProofs [stSl_sh, stSl_fr, e1, q, Mrk.w]⟩
theorem getD_range {α : Type} (ps : List α) (x : α) : (List.range ps.length).map (fun k => ps.getD k x) = ps := by
  apply List.ext_getElem?
  intro i
  rw [List.getElem?_map]
  by_cases h : i < ps.length
  · rw [List.getElem?_range h, List.getElem?_eq_getElem h]
    simp [h]
  · rw [List.getElem?_eq_none (by rw [List.length_range]; omega), List.getElem?_eq_none (by omega)]
    rfl
theorem row_parts (c : Int) (N : D) (sh ps : List D) (hlen : sh.length = ps.length) (s2 : Sl) (h : ∀ k : Nat, k < ps.length → ∃ d p, sh[k]? = some d ∧ ps[k]? = some p ∧ F__law_part_by [d, .int c, .int (2 * k + 1), N] = .ok p ∧ p.imm = true) :
    lcL (tgN 4) tYes' C__law_row_by_0 [.shr (.int c), .shr N, s2, .shr (.lst sh), .nil] (rngD 0 ps.length) = .ok (ps, .fr) := by
  rw [ints_range, lcL_map (g := fun d => match d with | .int j => ps.getD j.toNat .non | _ => .non), List.map_map]
  · congr 2
    exact getD_range ps .non
  · intro d hd
    obtain ⟨k, hk, rfl⟩ := List.mem_map.mp hd
    obtain ⟨d, p, h1, h2, h3, h4⟩ := h k (List.mem_range.mp hk)
    have hk' := List.mem_range.mp hk
    have q : atI sh (k : Int) = some d := by
      rw [atI_get' (by omega) (by omega), Int.toNat_natCast, h1]
    have gp : ps[k]?.getD .non = p := by rw [h2]; rfl
    refine ⟨[.shr (.int c), .shr N, s2, .shr (.lst sh), .shr (.int k)], by rw [tgN_eq, stSl_sh (by exact trivial)]; rfl, .fr, ?_, md_fr _⟩
    simp -implicitDefEqProofs [stSl_sh, stSl_fr, C__law_row_by_0, q, h3, gp]
def rowWs : List (List Nat) := [[115, 101, 116], [104, 105, 103, 104], [99, 111, 112, 121], [97, 100, 100], [97, 100, 100, 99], [115, 117, 98], [115, 117, 98, 99], [97, 110, 100], [111, 114], [120, 111, 114], [116, 101, 115, 116], [108, 101, 102, 116], [114, 105, 103, 104, 116], [108, 111, 97, 100], [115, 116, 111, 114, 101], [108, 111, 97, 100, 119], [115, 116, 111, 114, 101, 119], [106, 117, 109, 112], [119, 104, 101, 110], [117, 110, 108, 101, 115, 115], [115, 116, 111, 112]]
theorem words_eq : F__law_words [] = .ok (.lst (rowWs.map fun l => .str (tx l))) := by
  unfold F__law_words B__law_words
  rw [fnD_eq 0 1 _ _ rfl]
  simp -implicitDefEqProofs [stSl_sh, stSl_fr, rowWs]
theorem rowW_at (k : Nat) (h : k < 21) : ∃ w ∈ rowWs, atI (rowWs.map fun l => D.str (tx l)) (k : Int) = some (.str (tx w)) := by
  have hl : k < (rowWs.map fun l => D.str (tx l)).length := by rw [List.length_map]; exact h
  refine ⟨rowWs[k]'h, List.getElem_mem _, ?_⟩
  rw [atI_nat' hl, List.getElem_map]
  rfl

/-- what stands behind a row's word -/
def shapeW (w : List Nat) : List D :=
  if w = [115, 101, 116] ∨ w = [104, 105, 103, 104] then [.int 8, .int 65536]
  else if w = [108, 101, 102, 116] ∨ w = [114, 105, 103, 104, 116] then [.int 8, .int 32]
  else if w = [108, 111, 97, 100] ∨ w = [115, 116, 111, 114, 101] ∨ w = [108, 111, 97, 100, 119] ∨ w = [115, 116, 111, 114, 101, 119] then [.int 8, .int 8, .int 256]
  else if w = [106, 117, 109, 112] ∨ w = [108, 97, 98, 101, 108] then [.str (tx [110, 97, 109, 101])]
  else if w = [119, 104, 101, 110] ∨ w = [117, 110, 108, 101, 115, 115] then [.str (tx [109, 97, 114, 107]), .str (tx [110, 97, 109, 101])]
  else if w = [115, 116, 111, 112] then [] else [.int 8, .int 8]
theorem shapeL_eq (w : List Nat) (h : w ∈ rowWs ∨ w = [108, 97, 98, 101, 108]) : F__law_shape [.str (tx w)] = .ok (.lst (shapeW w)) := by
  unfold F__law_shape B__law_shape
  rw [fnD_eq 1 1 _ _ rfl]
  simp only [rowWs, List.mem_cons, List.not_mem_nil, or_false] at h
  rcases h with (rfl | rfl | rfl | rfl | rfl | rfl | rfl | rfl | rfl | rfl | rfl | rfl | rfl | rfl | rfl | rfl | rfl | rfl | rfl | rfl | rfl) | rfl <;> simp -implicitDefEqProofs [stSl_sh, stSl_fr, shapeW, eDct_eq]
theorem row_end (c : Int) (L : List (List Nat)) (w : List Nat) (h : w ∈ rowWs) (ps : List D) (hp : lcL (tgN 4) tYes' C__law_row_by_0 [.shr (.int c), .shr (.lst (L.map fun l => .str (tx l))), .shr (.str (tx w)), .shr (.lst (shapeW w)), .nil] (rngD 0 ps.length) = .ok (ps, .fr)) (hl : (shapeW w).length = ps.length) (im : D.imms ps = true) (h3 : ps.length ≤ 3) :
    ((fSeq (sAsg 3 (eCall F__law_shape (eCons (eVar 2) eNil)))
      (sRet (eAdd (eTup (eCons (eVar 2) eNil)) (eCopy tupOf (eCons (eLc (itBy rng1 (eCons (eFn oLen (eCons (eVar 3) eNil)) eNil)) (tgN 4) tYes' C__law_row_by_0 [4]) eNil))))) [.shr (.int c), .shr (.lst (L.map fun l => .str (tx l))), .shr (.str (tx w)), .nil, .nil]).res = .ok (.tup (.str (tx w) :: ps)) := by
  have e := shapeL_eq w (.inl h)
  have b1 : -1000000000 ≤ (ps.length : Int) ∧ (ps.length : Int) ≤ 1000000000 := by omega
  have b2 : ps.length ≤ 1000000 := by omega
  have b3 : 1 + ps.length ≤ 1000000 := by omega
  have b4 : ps.length + 1 ≤ 1000000 := by omega
  generalize (L.map fun l => D.str (tx l)) = N at *
  generalize shapeW w = sh at *
  simp -implicitDefEqProofs [stSl_sh, stSl_fr, e, hl, b1, hp, b2, im, b3, b4]
theorem row_by_eq (c : Int) (L : List (List Nat)) (hL : ∀ l ∈ L, isNm l) : ∃ it : Itm, it.ok ∧ it.isLab = false ∧ (it.isJmp = true → it.nm ∈ L) ∧ F__law_row_by [.int c, .lst (L.map fun l => .str (tx l))] = .ok it.enc := by
  have key : ∃ w ∈ rowWs, (L = [] → w ≠ [106, 117, 109, 112] ∧ w ≠ [119, 104, 101, 110] ∧ w ≠ [117, 110, 108, 101, 115, 115]) ∧
      F__law_row_by [.int c, .lst (L.map fun l => .str (tx l))] = ((fSeq (sAsg 3 (eCall F__law_shape (eCons (eVar 2) eNil)))
      (sRet (eAdd (eTup (eCons (eVar 2) eNil)) (eCopy tupOf (eCons (eLc (itBy rng1 (eCons (eFn oLen (eCons (eVar 3) eNil)) eNil)) (tgN 4) tYes' C__law_row_by_0 [4]) eNil))))) [.shr (.int c), .shr (.lst (L.map fun l => .str (tx l))), .shr (.str (tx w)), .nil, .nil]).res := by
    have e0 := mx_eq c 0 21 (by decide) (by decide)
    obtain ⟨k, hk, hk'⟩ := mx_nat c 0 21 (by decide) (by decide)
    rw [hk] at e0
    obtain ⟨w0, hw0, a0⟩ := rowW_at k (by omega)
    have e8 := mx_eq c 8 4 (by decide) (by decide)
    have e9 := mx_eq c 9 3 (by decide) (by decide)
    have e1 := words_eq
    have hm : (L.map fun l => D.str (tx l)).length = L.length := List.length_map _
    have s1 : ∃ w ∈ rowWs, (fSeq (sAsg 2 (eIx (eCall0 F__law_words) (eCall F__law_mixed (eCons (eVar 0) (eCons (eC (.int 0)) (eCons (eC (.int 21)) eNil))))))
        (sIf (tOf (eBin oEq (eCall F__law_mixed (eCons (eVar 0) (eCons (eC (.int 8)) (eCons (eC (.int 4)) eNil)))) (eC (.int 1)))) (sAsg 2 (eIx (eLst (eCons (eC (.str (tx [106, 117, 109, 112]))) (eCons (eC (.str (tx [119, 104, 101, 110]))) (eCons (eC (.str (tx [117, 110, 108, 101, 115, 115]))) eNil)))) (eCall F__law_mixed (eCons (eVar 0) (eCons (eC (.int 9)) (eCons (eC (.int 3)) eNil)))))) fPass)) [.shr (.int c), .shr (.lst (L.map fun l => .str (tx l))), .nil, .nil, .nil] = .nx [.shr (.int c), .shr (.lst (L.map fun l => .str (tx l))), .shr (.str (tx w)), .nil, .nil] := by
      generalize (rowWs.map fun l => D.str (tx l)) = RW at *
      generalize (L.map fun l => D.str (tx l)) = N at *
      by_cases h : mx c 8 4 = 1
      · have q0 := mx_0 c 9 3 (by decide) (by decide)
        have q1 := mx_lt c 9 3 (by decide) (by decide)
        rcases three_at (.str (tx [106, 117, 109, 112])) (.str (tx [119, 104, 101, 110])) (.str (tx [117, 110, 108, 101, 115, 115])) _ q0 q1 with q | q | q
        · exact ⟨[106, 117, 109, 112], by decide, by simp -implicitDefEqProofs [stSl_sh, stSl_fr, e0, e1, a0, e8, h, e9, q]⟩
        · exact ⟨[119, 104, 101, 110], by decide, by simp -implicitDefEqProofs [stSl_sh, stSl_fr, e0, e1, a0, e8, h, e9, q]⟩
        · exact ⟨[117, 110, 108, 101, 115, 115], by decide, by simp -implicitDefEqProofs [stSl_sh, stSl_fr, e0, e1, a0, e8, h, e9, q]⟩
      · exact ⟨w0, hw0, by simp -implicitDefEqProofs [stSl_sh, stSl_fr, e0, e1, a0, e8, h]⟩
    obtain ⟨w1, hw1, s1⟩ := s1
    unfold F__law_row_by B__law_row_by
    rw [fnD_eq 2 5 _ _ rfl]
    have st0 : (List.map Sl.shr [.int c, D.lst (L.map fun l => .str (tx l))] ++ List.replicate (5 - 2) Sl.nil) = [.shr (.int c), .shr (.lst (L.map fun l => .str (tx l))), .nil, .nil, .nil] := rfl
    rw [st0, fSeq_nx2 s1]
    by_cases hj : (w1 = [106, 117, 109, 112] ∨ w1 = [119, 104, 101, 110] ∨ w1 = [117, 110, 108, 101, 115, 115]) ∧ L = []
    · obtain ⟨hj, hL0⟩ := hj
      refine ⟨[115, 116, 111, 112], by decide, fun _ => by decide, ?_⟩
      subst hL0
      have s2 : sIf (tAnd' (tOf (eBin oInX (eVar 2) (eLst (eCons (eC (.str (tx [106, 117, 109, 112]))) (eCons (eC (.str (tx [119, 104, 101, 110]))) (eCons (eC (.str (tx [117, 110, 108, 101, 115, 115]))) eNil)))))) (tOf (eBin oEq (eFn oLen (eCons (eVar 1) eNil)) (eC (.int 0))))) (sAsg 2 (eC (.str (tx [115, 116, 111, 112])))) fPass
          [.shr (.int c), .shr (.lst (([] : List (List Nat)).map fun l => .str (tx l))), .shr (.str (tx w1)), .nil, .nil] = .nx [.shr (.int c), .shr (.lst (([] : List (List Nat)).map fun l => .str (tx l))), .shr (.str (tx [115, 116, 111, 112])), .nil, .nil] := by
        rcases hj with h | h | h <;> subst h <;> simp -implicitDefEqProofs [stSl_sh, stSl_fr]
      rw [fSeq_nx s2]
    · refine ⟨w1, hw1, fun hL0 => ?_, ?_⟩
      · refine ⟨fun z => hj ⟨.inl z, hL0⟩, fun z => hj ⟨.inr (.inl z), hL0⟩, fun z => hj ⟨.inr (.inr z), hL0⟩⟩
      · have s2 : sIf (tAnd' (tOf (eBin oInX (eVar 2) (eLst (eCons (eC (.str (tx [106, 117, 109, 112]))) (eCons (eC (.str (tx [119, 104, 101, 110]))) (eCons (eC (.str (tx [117, 110, 108, 101, 115, 115]))) eNil)))))) (tOf (eBin oEq (eFn oLen (eCons (eVar 1) eNil)) (eC (.int 0))))) (sAsg 2 (eC (.str (tx [115, 116, 111, 112])))) fPass
            [.shr (.int c), .shr (.lst (L.map fun l => .str (tx l))), .shr (.str (tx w1)), .nil, .nil] = .nx [.shr (.int c), .shr (.lst (L.map fun l => .str (tx l))), .shr (.str (tx w1)), .nil, .nil] := by
          by_cases hL0 : L = []
          · have n1 : ¬ (w1 = [106, 117, 109, 112] ∨ w1 = [119, 104, 101, 110] ∨ w1 = [117, 110, 108, 101, 115, 115]) := fun z => hj ⟨z, hL0⟩
            have n2 : ([106, 117, 109, 112] == w1) = false ∧ ([119, 104, 101, 110] == w1) = false ∧ ([117, 110, 108, 101, 115, 115] == w1) = false := by
              refine ⟨?_, ?_, ?_⟩ <;> (rw [beq_eq_false_iff_ne]; intro z; apply n1; rw [← z]; simp)
            generalize (L.map fun l => D.str (tx l)) = N at *
            simp -implicitDefEqProofs [stSl_sh, stSl_fr, n2]
          · have hl : ¬ (L.length : Int) = 0 := by
              have := List.length_pos_iff.mpr hL0
              omega
            generalize (L.map fun l => D.str (tx l)) = N at *
            by_cases n2 : ([106, 117, 109, 112] == w1 || ([119, 104, 101, 110] == w1 || [117, 110, 108, 101, 115, 115] == w1)) = true
            · simp -implicitDefEqProofs [stSl_sh, stSl_fr, n2, hm, hl]
              exact fun z => absurd z hL0
            · simp -implicitDefEqProofs [stSl_sh, stSl_fr, n2]
        rw [fSeq_nx s2]
  obtain ⟨w, hw, hne, e⟩ := key
  rw [e]
  clear e
  have fin : ∀ (it : Itm) (ps : List D), tx it.word = tx w → it.tl = ps → (shapeW w).length = ps.length → D.imms ps = true → ps.length ≤ 3 →
      (∀ k : Nat, k < ps.length → ∃ d p, (shapeW w)[k]? = some d ∧ ps[k]? = some p ∧ F__law_part_by [d, .int c, .int (2 * k + 1), .lst (L.map fun l => .str (tx l))] = .ok p ∧ p.imm = true) →
      ((fSeq (sAsg 3 (eCall F__law_shape (eCons (eVar 2) eNil)))
      (sRet (eAdd (eTup (eCons (eVar 2) eNil)) (eCopy tupOf (eCons (eLc (itBy rng1 (eCons (eFn oLen (eCons (eVar 3) eNil)) eNil)) (tgN 4) tYes' C__law_row_by_0 [4]) eNil))))) [.shr (.int c), .shr (.lst (L.map fun l => .str (tx l))), .shr (.str (tx w)), .nil, .nil]).res = .ok it.enc := by
    intro it ps h1 h2 h3 h4 h5 h6
    rw [row_end c L w hw ps (row_parts c _ _ ps h3 _ h6) h3 h4 h5]
    unfold Itm.enc
    rw [h1, h2]
  have two : ∀ (it : Nat → Nat → Itm) (m n : Nat), 0 < m → 0 < n → (∀ a b, tx (it a b).word = tx w) → (∀ a b, (it a b).tl = [.int a, .int b]) → shapeW w = [.int m, .int n] → (∀ a b, a < m → b < n → (it a b).ok) → (∀ a b, (it a b).isLab = false ∧ (it a b).isJmp = false) →
      ∃ it : Itm, it.ok ∧ it.isLab = false ∧ (it.isJmp = true → it.nm ∈ L) ∧ ((fSeq (sAsg 3 (eCall F__law_shape (eCons (eVar 2) eNil)))
      (sRet (eAdd (eTup (eCons (eVar 2) eNil)) (eCopy tupOf (eCons (eLc (itBy rng1 (eCons (eFn oLen (eCons (eVar 3) eNil)) eNil)) (tgN 4) tYes' C__law_row_by_0 [4]) eNil))))) [.shr (.int c), .shr (.lst (L.map fun l => .str (tx l))), .shr (.str (tx w)), .nil, .nil]).res = .ok it.enc := by
    intro it m n m0 n0 h1 h2 h3 h4 h5
    obtain ⟨a, ha, ea⟩ := part_num' c (2 * ((0 : Nat) : Int) + 1) m (.lst (L.map fun l => .str (tx l))) (by decide) m0
    obtain ⟨b, hb, eb⟩ := part_num' c (2 * ((1 : Nat) : Int) + 1) n (.lst (L.map fun l => .str (tx l))) (by decide) n0
    refine ⟨it a b, h4 a b ha hb, (h5 a b).1, fun z => (by rw [(h5 a b).2] at z; cases z), fin (it a b) [.int a, .int b] (h1 a b) (h2 a b) (by rw [h3]; rfl) rfl (by simp) fun k hk => ?_⟩
    rw [h3]
    have hk' : k = 0 ∨ k = 1 := by have : k < 2 := hk; omega
    rcases hk' with rfl | rfl
    · exact ⟨_, _, rfl, rfl, ea, rfl⟩
    · exact ⟨_, _, rfl, rfl, eb, rfl⟩
  have heldc : ∀ (it : Nat → Nat → Nat → Itm), (∀ a b e, tx (it a b e).word = tx w) → (∀ a b e, (it a b e).tl = [.int a, .int b, .int e]) → shapeW w = [.int 8, .int 8, .int 256] → (∀ a b e, a < 8 → b < 8 → e < 256 → (it a b e).ok) → (∀ a b e, (it a b e).isLab = false ∧ (it a b e).isJmp = false) →
      ∃ it : Itm, it.ok ∧ it.isLab = false ∧ (it.isJmp = true → it.nm ∈ L) ∧ ((fSeq (sAsg 3 (eCall F__law_shape (eCons (eVar 2) eNil)))
      (sRet (eAdd (eTup (eCons (eVar 2) eNil)) (eCopy tupOf (eCons (eLc (itBy rng1 (eCons (eFn oLen (eCons (eVar 3) eNil)) eNil)) (tgN 4) tYes' C__law_row_by_0 [4]) eNil))))) [.shr (.int c), .shr (.lst (L.map fun l => .str (tx l))), .shr (.str (tx w)), .nil, .nil]).res = .ok it.enc := by
    intro it h1 h2 h3 h4 h5
    obtain ⟨a, ha, ea⟩ := part_num' c (2 * ((0 : Nat) : Int) + 1) 8 (.lst (L.map fun l => .str (tx l))) (by decide) (by decide)
    obtain ⟨b, hb, eb⟩ := part_num' c (2 * ((1 : Nat) : Int) + 1) 8 (.lst (L.map fun l => .str (tx l))) (by decide) (by decide)
    obtain ⟨e, he, ee⟩ := part_num' c (2 * ((2 : Nat) : Int) + 1) 256 (.lst (L.map fun l => .str (tx l))) (by decide) (by decide)
    refine ⟨it a b e, h4 a b e ha hb he, (h5 a b e).1, fun z => (by rw [(h5 a b e).2] at z; cases z), fin (it a b e) [.int a, .int b, .int e] (h1 a b e) (h2 a b e) (by rw [h3]; rfl) rfl (by simp) fun k hk => ?_⟩
    rw [h3]
    have hk' : k = 0 ∨ k = 1 ∨ k = 2 := by have : k < 3 := hk; omega
    rcases hk' with rfl | rfl | rfl
    · exact ⟨_, _, rfl, rfl, ea, rfl⟩
    · exact ⟨_, _, rfl, rfl, eb, rfl⟩
    · exact ⟨_, _, rfl, rfl, ee, rfl⟩
  have named : L ≠ [] → ∀ k : Int, 0 ≤ k → ∃ l, isNm l ∧ l ∈ L ∧ F__law_part_by [.str (tx [110, 97, 109, 101]), .int c, .int k, .lst (L.map fun l => .str (tx l))] = .ok (.str (tx l)) := fun h k hk => by
    obtain ⟨l, hl, e⟩ := part_name c k L hk h
    exact ⟨l, hL l hl, hl, e⟩
  have condc : ∀ u : Bool, tx (Itm.cond u .carry []).word = tx w → L ≠ [] → shapeW w = [.str (tx [109, 97, 114, 107]), .str (tx [110, 97, 109, 101])] → ∃ it : Itm, it.ok ∧ it.isLab = false ∧ (it.isJmp = true → it.nm ∈ L) ∧ ((fSeq (sAsg 3 (eCall F__law_shape (eCons (eVar 2) eNil)))
      (sRet (eAdd (eTup (eCons (eVar 2) eNil)) (eCopy tupOf (eCons (eLc (itBy rng1 (eCons (eFn oLen (eCons (eVar 3) eNil)) eNil)) (tgN 4) tYes' C__law_row_by_0 [4]) eNil))))) [.shr (.int c), .shr (.lst (L.map fun l => .str (tx l))), .shr (.str (tx w)), .nil, .nil]).res = .ok it.enc := by
    intro u h1 h2 h3
    obtain ⟨m, em⟩ := part_mark c (2 * ((0 : Nat) : Int) + 1) (.lst (L.map fun l => .str (tx l))) (by decide)
    obtain ⟨l, hl, hl2, el⟩ := named h2 (2 * ((1 : Nat) : Int) + 1) (by decide)
    refine ⟨.cond u m l, hl, rfl, fun _ => hl2, fin (.cond u m l) [.str (tx m.w), .str (tx l)] ?_ rfl (by rw [h3]; rfl) rfl (by simp) fun k hk => ?_⟩
    · rw [← h1]
      cases u <;> rfl
    · rw [h3]
      have hk' : k = 0 ∨ k = 1 := by have : k < 2 := hk; omega
      rcases hk' with rfl | rfl
      · exact ⟨_, _, rfl, rfl, em, rfl⟩
      · exact ⟨_, _, rfl, rfl, el, rfl⟩
  have hw' := hw
  simp only [rowWs, List.mem_cons, List.not_mem_nil, or_false] at hw'
  rcases hw' with h | h | h | h | h | h | h | h | h | h | h | h | h | h | h | h | h | h | h | h | h
  · exact two (.wide false) 8 65536 (by decide) (by decide) (fun _ _ => by rw [h]; rfl) (fun _ _ => rfl) (by rw [h]; rfl) (fun _ _ x y => ⟨x, y⟩) fun _ _ => ⟨rfl, rfl⟩
  · exact two (.wide true) 8 65536 (by decide) (by decide) (fun _ _ => by rw [h]; rfl) (fun _ _ => rfl) (by rw [h]; rfl) (fun _ _ x y => ⟨x, y⟩) fun _ _ => ⟨rfl, rfl⟩
  · exact two (.two .copy) 8 8 (by decide) (by decide) (fun _ _ => by rw [h]; rfl) (fun _ _ => rfl) (by rw [h]; rfl) (fun _ _ x y => ⟨x, y⟩) fun _ _ => ⟨rfl, rfl⟩
  · exact two (.two .add) 8 8 (by decide) (by decide) (fun _ _ => by rw [h]; rfl) (fun _ _ => rfl) (by rw [h]; rfl) (fun _ _ x y => ⟨x, y⟩) fun _ _ => ⟨rfl, rfl⟩
  · exact two (.two .addc) 8 8 (by decide) (by decide) (fun _ _ => by rw [h]; rfl) (fun _ _ => rfl) (by rw [h]; rfl) (fun _ _ x y => ⟨x, y⟩) fun _ _ => ⟨rfl, rfl⟩
  · exact two (.two .sub) 8 8 (by decide) (by decide) (fun _ _ => by rw [h]; rfl) (fun _ _ => rfl) (by rw [h]; rfl) (fun _ _ x y => ⟨x, y⟩) fun _ _ => ⟨rfl, rfl⟩
  · exact two (.two .subc) 8 8 (by decide) (by decide) (fun _ _ => by rw [h]; rfl) (fun _ _ => rfl) (by rw [h]; rfl) (fun _ _ x y => ⟨x, y⟩) fun _ _ => ⟨rfl, rfl⟩
  · exact two (.two .and) 8 8 (by decide) (by decide) (fun _ _ => by rw [h]; rfl) (fun _ _ => rfl) (by rw [h]; rfl) (fun _ _ x y => ⟨x, y⟩) fun _ _ => ⟨rfl, rfl⟩
  · exact two (.two .or) 8 8 (by decide) (by decide) (fun _ _ => by rw [h]; rfl) (fun _ _ => rfl) (by rw [h]; rfl) (fun _ _ x y => ⟨x, y⟩) fun _ _ => ⟨rfl, rfl⟩
  · exact two (.two .xor) 8 8 (by decide) (by decide) (fun _ _ => by rw [h]; rfl) (fun _ _ => rfl) (by rw [h]; rfl) (fun _ _ x y => ⟨x, y⟩) fun _ _ => ⟨rfl, rfl⟩
  · exact two (.two .test) 8 8 (by decide) (by decide) (fun _ _ => by rw [h]; rfl) (fun _ _ => rfl) (by rw [h]; rfl) (fun _ _ x y => ⟨x, y⟩) fun _ _ => ⟨rfl, rfl⟩
  · exact two (.mv false) 8 32 (by decide) (by decide) (fun _ _ => by rw [h]; rfl) (fun _ _ => rfl) (by rw [h]; rfl) (fun _ _ x y => ⟨x, y⟩) fun _ _ => ⟨rfl, rfl⟩
  · exact two (.mv true) 8 32 (by decide) (by decide) (fun _ _ => by rw [h]; rfl) (fun _ _ => rfl) (by rw [h]; rfl) (fun _ _ x y => ⟨x, y⟩) fun _ _ => ⟨rfl, rfl⟩
  · exact heldc (.held .load) (fun _ _ _ => by rw [h]; rfl) (fun _ _ _ => rfl) (by rw [h]; rfl) (fun _ _ _ x y z => ⟨x, y, z⟩) fun _ _ _ => ⟨rfl, rfl⟩
  · exact heldc (.held .store) (fun _ _ _ => by rw [h]; rfl) (fun _ _ _ => rfl) (by rw [h]; rfl) (fun _ _ _ x y z => ⟨x, y, z⟩) fun _ _ _ => ⟨rfl, rfl⟩
  · exact heldc (.held .loadw) (fun _ _ _ => by rw [h]; rfl) (fun _ _ _ => rfl) (by rw [h]; rfl) (fun _ _ _ x y z => ⟨x, y, z⟩) fun _ _ _ => ⟨rfl, rfl⟩
  · exact heldc (.held .storew) (fun _ _ _ => by rw [h]; rfl) (fun _ _ _ => rfl) (by rw [h]; rfl) (fun _ _ _ x y z => ⟨x, y, z⟩) fun _ _ _ => ⟨rfl, rfl⟩
  · have hn : L ≠ [] := fun z => (hne z).1 h
    obtain ⟨l, hl, hl2, el⟩ := named hn (2 * ((0 : Nat) : Int) + 1) (by decide)
    refine ⟨.jump l, hl, rfl, fun _ => hl2, fin (.jump l) [.str (tx l)] (by rw [h]; rfl) rfl (by rw [h]; rfl) rfl (by simp) fun k hk => ?_⟩
    rw [h]
    have hk' : k = 0 := by have : k < 1 := hk; omega
    subst hk'
    exact ⟨_, _, rfl, rfl, el, rfl⟩
  · exact condc false (by rw [h]; rfl) (fun z => (hne z).2.1 h) (by rw [h]; rfl)
  · exact condc true (by rw [h]; rfl) (fun z => (hne z).2.2 h) (by rw [h]; rfl)
  · exact ⟨.stop, trivial, rfl, (fun z => by cases z), fin .stop [] (by rw [h]; rfl) rfl (by rw [h]; rfl) rfl (by simp) fun k hk => absurd hk (Nat.not_lt_zero _)⟩

end Dn
set_option Elab.async false
set_option linter.all false
set_option maxRecDepth 100000
set_option maxHeartbeats 1000000
namespace Dn
open PySem L2
/-! programs of group A -/
theorem cells_comp (c : Int) (ρ : Rho) (n : Nat) (h2 : ρ[2]? = some (.shr (.int c))) (h7 : free ρ[7]?) : lcL (tgN 7) tYes' C__law_program_0 ρ (rngD 0 n) = .ok (((List.range n).map fun (k : Nat) => c / 12 + 17 * (k : Int)).map D.int, .fr) := by
  rw [ints_range, List.map_map]
  apply lcL_all (g := fun (k : Nat) => D.int (c / 12 + 17 * (k : Int)))
  intro k _
  have hl := free_lt h7
  refine ⟨ρ.set 7 (.shr (.int k)), by rw [tgN_eq, stSl_sh h7], .fr, ?_, rfl⟩
  simp -implicitDefEqProofs [stSl_sh, stSl_fr, C__law_program_0, h2, hl]
theorem rows_comp (L : List (List Nat)) (hL : ∀ l ∈ L, isNm l) (ρ : Rho) (cs : List Int) (h5 : ρ[5]? = some (.shr (.lst (L.map fun l => .str (tx l))))) (h8 : free ρ[8]?) :
    ∃ P : List Itm, P.length = cs.length ∧ (∀ i ∈ P, i.ok ∧ i.isLab = false ∧ (i.isJmp = true → i.nm ∈ L)) ∧ lcL (tgN 8) tYes' C__law_program_1 ρ (cs.map D.int) = .ok (P.map Itm.enc, .fr) := by
  have hl := free_lt h8
  induction cs with
  | nil => exact ⟨[], rfl, fun _ h => absurd h List.not_mem_nil, rfl⟩
  | cons c cs ih =>
    obtain ⟨P, h1, h2, h3⟩ := ih
    obtain ⟨it, a1, a2, a3, a4⟩ := row_by_eq c L hL
    refine ⟨it :: P, by rw [List.length_cons, List.length_cons, h1], fun i hi => ?_, ?_⟩
    · rcases List.mem_cons.mp hi with z | z
      · rw [z]
        exact ⟨a1, a2, a3⟩
      · exact h2 i z
    · rw [List.map_cons, lcL_cons, tgN_eq, stSl_sh h8]
      have e : C__law_program_1 (ρ.set 8 (.shr (.int c))) = .ok (it.enc, .fr) := by
        simp -implicitDefEqProofs [stSl_sh, stSl_fr, C__law_program_1, h5, hl, a4]
      simp only [tYes_eq, nox_ok', R.bind_ok, if_true, e, md_fr, ntr, h3]
      rfl
theorem labs_one (n : List Nat) : labs [.label n] = [n] := rfl
theorem ins_loop (L : List (List Nat)) (far : Int) (P0 : List Itm) (hL : ∀ l ∈ L, isNm l) (hl : L.length ≤ 45) (hP : P0.length ≤ 300) (h0 : ∀ i ∈ P0, i.ok ∧ i.isLab = false ∧ (i.isJmp = true → i.nm ∈ L)) (s0 s1 s3 s4 : Sl) (s7 s8 : Sl) (f7 : free (some s7)) :
    ∃ P s7', P.length = P0.length + L.length ∧ (∀ i ∈ P, i.ok ∧ (i.isJmp = true → i.nm ∈ L)) ∧ (labs P).Perm L ∧ rows P = P0 ∧
      forL (tgN 7) W__law_program_2 (rngD 0 L.length) [s0, s1, .shr (.int far), s3, s4, .own (.lst (L.map fun l => .str (tx l))), .own (.lst (P0.map Itm.enc)), s7, s8] = .nx [s0, s1, .shr (.int far), s3, s4, .own (.lst (L.map fun l => .str (tx l))), .own (.lst (P.map Itm.enc)), s7', s8] := by
  obtain ⟨ρ', h1, P, s7', g1, g2, g3, g5, g4, rfl⟩ := forL_inv (st := tgN 7) (f := W__law_program_2) (ds := rngD 0 L.length) (ρ := [s0, s1, .shr (.int far), s3, s4, .own (.lst (L.map fun l => .str (tx l))), .own (.lst (P0.map Itm.enc)), s7, s8])
    (fun k ρ => ∃ P s7', P.length = P0.length + k ∧ (∀ i ∈ P, i.ok ∧ (i.isJmp = true → i.nm ∈ L)) ∧ (labs P).Perm (L.take k) ∧ rows P = P0 ∧ free (some s7') ∧ ρ = [s0, s1, .shr (.int far), s3, s4, .own (.lst (L.map fun l => .str (tx l))), .own (.lst (P.map Itm.enc)), s7', s8])
    ⟨P0, s7, rfl, fun i hi => ⟨(h0 i hi).1, (h0 i hi).2.2⟩, by rw [labs_rows fun i hi => (h0 i hi).2.1]; exact List.Perm.refl _, List.filter_eq_self.mpr fun i hi => by rw [(h0 i hi).2.1]; rfl, f7, rfl⟩ (by
      rintro k d ρ hk ⟨P, s7', g1, g2, g3, g5, g4, rfl⟩
      rw [ints_range, List.getElem?_map] at hk
      have hk' : k < L.length := by
        rcases Nat.lt_or_ge k L.length with h | h
        · exact h
        · rw [List.getElem?_eq_none (by rw [List.length_range]; exact h)] at hk
          cases hk
      rw [List.getElem?_range hk'] at hk
      obtain rfl : d = .int k := (Option.some.inj hk).symm
      have q : atI (L.map fun l => D.str (tx l)) (k : Int) = some (.str (tx L[k])) := by
        have hb : k < (L.map fun l => D.str (tx l)).length := by rw [List.length_map]; exact hk'
        rw [atI_nat' hb, List.getElem_map]
      have e1 := mx_eq (far + (k : Int) / 5) k ((P.map Itm.enc).length + 1) (by omega) (by omega)
      obtain ⟨j, hj, hj'⟩ := mx_nat (far + (k : Int) / 5) k ((P.map Itm.enc).length + 1) (by omega) (by omega)
      rw [hj] at e1
      have lp : (P.map Itm.enc).length = P.length := List.length_map _
      refine ⟨[s0, s1, .shr (.int far), s3, s4, .own (.lst (L.map fun l => .str (tx l))), .own (.lst (P.map Itm.enc)), .shr (.int k), s8], by rw [tgN_eq, stSl_sh (by exact g4)]; rfl,
        [s0, s1, .shr (.int far), s3, s4, .own (.lst (L.map fun l => .str (tx l))), .own (.lst ((P.take j ++ [Itm.label L[k]] ++ P.drop j).map Itm.enc)), .shr (.int k), s8], .inl ?_, P.take j ++ [Itm.label L[k]] ++ P.drop j, .shr (.int k), ?_, ?_, ?_, ?_, trivial, rfl⟩
      · unfold W__law_program_2
        rw [sIns_own (xs := P.map Itm.enc) (j := j) (d := (Itm.label L[k]).enc) (m := .fr) (m' := .fr)]
        · simp only [List.map_append, List.map_cons, List.map_nil, List.map_take, List.map_drop, Int.toNat_natCast]
          rfl
        · rfl
        · generalize (L.map fun l => D.str (tx l)) = N at *
          generalize P.map Itm.enc = PE at *
          simp -implicitDefEqProofs [stSl_sh, stSl_fr, e1]
        · generalize P.map Itm.enc = PE at *
          rw [show (Itm.label L[k]).enc = D.tup [.str (tx [108, 97, 98, 101, 108]), .str (tx L[k])] from rfl]
          generalize (L.map fun l => D.str (tx l)) = N at *
          simp -implicitDefEqProofs [stSl_sh, stSl_fr, q]
        · refine ⟨imms_encs P, imm_enc _, by omega, by omega, by omega⟩
      · simp only [List.length_append, List.length_take, List.length_drop, List.length_cons, List.length_nil]
        omega
      · intro i hi
        simp only [List.mem_append, List.mem_cons, List.not_mem_nil, or_false] at hi
        rcases hi with (z | z) | z
        · exact g2 i (List.mem_of_mem_take z)
        · rw [z]
          exact ⟨hL _ (List.getElem_mem _), fun z => by cases z⟩
        · exact g2 i (List.mem_of_mem_drop z)
      · rw [labs_app, labs_app, labs_one]
        have h : (labs (P.take j) ++ [L[k]] ++ labs (P.drop j)).Perm (L[k] :: labs P) := by
          have e : labs P = labs (P.take j) ++ labs (P.drop j) := by rw [← labs_app, List.take_append_drop]
          rw [e, List.append_assoc]
          exact List.perm_middle
        refine h.trans ?_
        rw [List.take_succ_eq_append_getElem hk']
        exact (List.Perm.cons _ g3).trans (List.perm_append_singleton _ _).symm
      · unfold rows at *
        rw [List.filter_append, List.filter_append]
        have : ([Itm.label L[k]]).filter (fun i => !i.isLab) = [] := rfl
        rw [this, List.append_nil, ← List.filter_append, List.take_append_drop, g5])
  rw [rngD_len] at g1 g3
  rw [List.take_length] at g3
  exact ⟨P, s7', g1, g2, g3, g5, h1⟩
theorem program_eq (ns : List Int) (k : Int) (hk : 0 ≤ k) : ∃ P : List Itm, Prog P ∧ P.length ≤ 239 ∧ (labs P).length ≤ 40 ∧ F__law_program [.scr ns, .int k] = .ok (.lst (P.map Itm.enc)) := by
  have k0 := cell_eq ns k hk
  generalize cl ns k = far at k0
  -- the cells
  obtain ⟨cs, hcs, s3⟩ : ∃ cs : List Int, cs.length ≤ 199 ∧ (fSeq (sAsg 3 (eSl (eVar 0) (pAt (eAdd (eVar 1) (eC (.int 1)))) (pAt (eAdd (eVar 1) (eC (.int 31))))))
      (sIf (tOf (eBin oEq (eBin oMod (eVar 2) (eC (.int 12))) (eC (.int 5)))) (sAsg 3 (eLc (itBy rng1 (eCons (eAdd (eC (.int 40)) (eBin oMod (eBin oDiv (eVar 2) (eC (.int 12))) (eC (.int 160)))) eNil)) (tgN 7) tYes' C__law_program_0 [7])) fPass))
      [.shr (.scr ns), .shr (.int k), .shr (.int far), .nil, .nil, .nil, .nil, .nil, .nil] = .nx [.shr (.scr ns), .shr (.int k), .shr (.int far), .own (.lst (cs.map D.int)), .nil, .nil, .nil, .nil, .nil] := by
    by_cases h : far % 12 = 5
    · obtain ⟨n, hn, hn'⟩ : ∃ n : Nat, 40 + far / 12 % 160 = n ∧ n ≤ 199 := by
        have := Int.emod_nonneg (far / 12) (show (160 : Int) ≠ 0 by decide)
        have := Int.emod_lt_of_pos (far / 12) (show (0 : Int) < 160 by decide)
        exact ⟨(40 + far / 12 % 160).toNat, by omega, by omega⟩
      refine ⟨(List.range n).map fun (k : Nat) => far / 12 + 17 * (k : Int), by rw [List.length_map, List.length_range]; exact hn', ?_⟩
      have e := fun ρ h2 h7 => cells_comp far ρ n h2 h7
      have b : -1000000000 ≤ (n : Int) ∧ (n : Int) ≤ 1000000000 := by omega
      have hl : (((List.range n).map fun (k : Nat) => far / 12 + 17 * (k : Int)).map D.int).length ≤ 1000000 := by rw [List.length_map, List.length_map, List.length_range]; omega
      have im := imms_ints ((List.range n).map fun (k : Nat) => far / 12 + 17 * (k : Int))
      generalize (((List.range n).map fun (k : Nat) => far / 12 + 17 * (k : Int)).map D.int) = C at *
      simp -implicitDefEqProofs [stSl_sh, stSl_fr, h, hn, b, e, hl, im]
    · refine ⟨cutL ns (some (k + 1)) (some (k + 31)), ?_, ?_⟩
      · rw [cut_within (by omega) (by omega), List.length_take]
        omega
      · simp -implicitDefEqProofs [stSl_sh, stSl_fr, h]
  obtain ⟨m, hm, s4⟩ : ∃ m : Nat, m ≤ 40 ∧ (fSeq (sAsg 4 (eIx (eLst (eCons (eC (.int 0)) (eCons (eC (.int 1)) (eCons (eC (.int 2)) (eCons (eC (.int 3)) (eCons (eC (.int 4)) (eCons (eC (.int 6)) (eCons (eC (.int 8)) (eCons (eC (.int 20)) eNil))))))))) (eCall F__law_mixed (eCons (eVar 2) (eCons (eC (.int 1)) (eCons (eC (.int 8)) eNil))))))
      (sIf (tOf (eBin oEq (eBin oMod (eVar 2) (eC (.int 24))) (eC (.int 5)))) (sAsg 4 (eC (.int 40))) fPass))
      [.shr (.scr ns), .shr (.int k), .shr (.int far), .own (.lst (cs.map D.int)), .nil, .nil, .nil, .nil, .nil] = .nx [.shr (.scr ns), .shr (.int k), .shr (.int far), .own (.lst (cs.map D.int)), .shr (.int m), .nil, .nil, .nil, .nil] := by
    have e1 := mx_eq far 1 8 (by decide) (by decide)
    obtain ⟨d, hd, q⟩ := atI_mem (xs := [D.int 0, .int 1, .int 2, .int 3, .int 4, .int 6, .int 8, .int 20]) (i := mx far 1 8) (mx_0 far 1 8 (by decide) (by decide)) (by simpa using mx_lt far 1 8 (by decide) (by decide))
    obtain ⟨m, rfl, hm⟩ : ∃ m : Nat, d = .int m ∧ m ≤ 20 := by
      simp only [List.mem_cons, List.not_mem_nil, or_false] at hd
      rcases hd with rfl | rfl | rfl | rfl | rfl | rfl | rfl | rfl
      · exact ⟨0, rfl, by decide⟩
      · exact ⟨1, rfl, by decide⟩
      · exact ⟨2, rfl, by decide⟩
      · exact ⟨3, rfl, by decide⟩
      · exact ⟨4, rfl, by decide⟩
      · exact ⟨6, rfl, by decide⟩
      · exact ⟨8, rfl, by decide⟩
      · exact ⟨20, rfl, by decide⟩
    generalize cs.map D.int = C
    by_cases h : far % 24 = 5
    · exact ⟨40, by decide, by simp -implicitDefEqProofs [stSl_sh, stSl_fr, e1, q, h]⟩
    · exact ⟨m, by omega, by simp -implicitDefEqProofs [stSl_sh, stSl_fr, e1, q, h]⟩
  obtain ⟨L, hl, hL, hd, e⟩ := names_eq (far / 3) m (by omega)
  obtain ⟨P0, p1, p2, p3⟩ := rows_comp L hL [.shr (.scr ns), .shr (.int k), .shr (.int far), .shr (.lst (cs.map D.int)), .shr (.int m), .shr (.lst (L.map fun l => .str (tx l))), .nil, .nil, .nil] cs rfl trivial
  obtain ⟨P, s7, q1, q2, q3, _, q4⟩ := ins_loop L far P0 hL (by omega) (by omega) p2 (.shr (.scr ns)) (.shr (.int k)) (.own (.lst (cs.map D.int))) (.shr (.int m)) .nil .nil trivial
  refine ⟨P, ⟨fun i hi => (q2 i hi).1, (q3.nodup_iff).mpr hd, fun i hi hj => (q3.mem_iff).mpr ((q2 i hi).2 hj), by omega⟩, by omega, by rw [q3.length_eq]; omega, ?_⟩
  unfold F__law_program B__law_program
  rw [fnD_eq 2 9 _ _ rfl]
  have s2 : sAsg 2 (eCall F__law_cell_at (eCons (eVar 0) (eCons (eVar 1) eNil))) ([D.scr ns, D.int k].map Sl.shr ++ List.replicate (9 - 2) Sl.nil) = .nx [.shr (.scr ns), .shr (.int k), .shr (.int far), .nil, .nil, .nil, .nil, .nil, .nil] := by
    simp -implicitDefEqProofs [stSl_sh, stSl_fr, k0]
  rw [fSeq_nx s2, fSeq_nx2 s3, fSeq_nx2 s4]
  have hN : (L.map fun l => D.str (tx l)).length = L.length := List.length_map _
  have hP : (P0.map Itm.enc).length ≤ 1000000 := by rw [List.length_map]; omega
  have b : -1000000000 ≤ (m : Int) ∧ (m : Int) ≤ 1000000000 := by omega
  rw [hl] at q4 hN
  have iC := imms_ints cs
  generalize (L.map fun l => D.str (tx l)) = N at *
  generalize P0.map Itm.enc = PE at *
  generalize P.map Itm.enc = PF at *
  generalize cs.map D.int = C at *
  simp -implicitDefEqProofs [stSl_sh, stSl_fr, e, p3, hP, hN, b, q4]

end Dn
set_option Elab.async false
set_option linter.all false
set_option maxRecDepth 100000
set_option maxHeartbeats 1000000
namespace Dn
open PySem L2
theorem lab_word (i : Itm) : (i.word == [108, 97, 98, 101, 108]) = i.isLab := by
  rcases i with n | n | ⟨u, m, n⟩ | ⟨h', d, n⟩ | ⟨w, d, s⟩ | ⟨r, d, n⟩ | ⟨w, d, s, n⟩ | _
  · rfl
  · rfl
  · cases u <;> rfl
  · cases h' <;> rfl
  · cases w <;> rfl
  · cases r <;> rfl
  · cases w <;> rfl
  · rfl
theorem mem_labs {P : List Itm} {n : List Nat} : n ∈ labs P ↔ Itm.label n ∈ P := by
  unfold labs
  constructor
  · intro h
    obtain ⟨i, hi, rfl⟩ := List.mem_map.mp h
    obtain ⟨h1, h2⟩ := List.mem_filter.mp hi
    cases i <;> first | exact h1 | cases h2
  · intro h
    exact List.mem_map.mpr ⟨_, List.mem_filter.mpr ⟨h, rfl⟩, rfl⟩
theorem rows_le (P : List Itm) : (rows P).length ≤ P.length := List.length_filter_le _ _
theorem labs_le (P : List Itm) : (labs P).length ≤ P.length := by
  unfold labs
  rw [List.length_map]
  exact List.length_filter_le _ _

/-! places -/
theorem rows_of_eq (P : List Itm) (hP : P.length ≤ 400) : F_rows_of [.lst (P.map Itm.enc)] = .ok (.lst ((rows P).map Itm.enc)) := by
  have e : ∀ ρ : Rho, free ρ[1]? → lcL (tgN 1) T_rows_of_0 (eVar 1) ρ (P.map Itm.enc) = .ok ((rows P).map Itm.enc, .fr) := by
    intro ρ h1
    have hl := free_lt h1
    refine lcL_items (g := Itm.enc) fun i hi => ?_
    refine ⟨ρ.set 1 (.shr i.enc), by rw [tgN_eq, stSl_sh h1], ?_, fun _ => ⟨.sh, ?_, md_enc _ _⟩⟩
    · have a := lab_word i
      unfold Itm.enc
      simp -implicitDefEqProofs [stSl_sh, stSl_fr, T_rows_of_0, hl, a]
    · simp -implicitDefEqProofs [stSl_sh, stSl_fr, hl]
  have l1 : ((rows P).map Itm.enc).length ≤ 1000000 := by
    rw [List.length_map]
    have := List.length_filter_le (fun i : Itm => !i.isLab) P
    have : (rows P).length ≤ P.length := this
    omega
  unfold F_rows_of B_rows_of
  rw [fnD_eq 1 2 _ _ rfl]
  have i1 := imms_encs P
  generalize (rows P).map Itm.enc = R at *
  generalize P.map Itm.enc = PE at *
  simp -implicitDefEqProofs [stSl_sh, stSl_fr, e, l1, i1]
def kT (n : List Nat) : Key := .inr (tx n)
theorem kT_inj {a b : List Nat} : kT a = kT b ↔ a = b := by
  unfold kT
  constructor
  · intro h
    have h := Sum.inr.inj h
    have := congrArg (fun s : Str => s.cps.toList) h
    simpa using this
  · intro h
    rw [h]
theorem hasK_names (L : List (List Nat)) (n : List Nat) : hasK (L.map kT) (kT n) = decide (n ∈ L) := by
  induction L with
  | nil => rfl
  | cons a r ih =>
    unfold hasK at *
    rw [List.map_cons, List.any_cons, ih, Bool.eq_iff_iff]
    simp only [Bool.or_eq_true, decide_eq_true_eq, kT_inj, List.mem_cons]
    exact ⟨fun h => h.imp Eq.symm id, fun h => h.imp Eq.symm id⟩
theorem lkD_names (L : List (List Nat)) (g : List Nat → D) (n : List Nat) (h : n ∈ L) : lkD (L.map kT) (L.map g) (kT n) = some (g n) := by
  induction L with
  | nil => exact absurd h List.not_mem_nil
  | cons a r ih =>
    rw [List.map_cons, List.map_cons, lkD_cons]
    by_cases z : a = n
    · rw [if_pos (kT_inj.mpr z), z]
    · rw [if_neg fun h => z (kT_inj.mp h)]
      exact ih ((List.mem_cons.mp h).resolve_left fun h => z h.symm)
/-- the number of the row behind a label -/
def plc (P : List Itm) (n : List Nat) : Nat := (rows (P.takeWhile fun i => !decide (i = .label n))).length
theorem rows_app (P Q : List Itm) : rows (P ++ Q) = rows P ++ rows Q := List.filter_append _ _
theorem plc_app {Q R : List Itm} {n : List Nat} (h : n ∉ labs Q) : plc (Q ++ Itm.label n :: R) n = (rows Q).length := by
  unfold plc
  rw [List.takeWhile_append_of_pos fun i hi => by
    rw [Bool.not_eq_true', decide_eq_false_iff_not]
    intro z
    exact h (mem_labs.mpr (z ▸ hi))]
  rw [List.takeWhile_cons_of_neg (by simp), List.append_nil]
theorem plc_le (P : List Itm) (n : List Nat) : plc P n ≤ (rows P).length := by
  unfold plc
  have : P.takeWhile (fun i => !decide (i = .label n)) ++ P.dropWhile (fun i => !decide (i = .label n)) = P := List.takeWhile_append_dropWhile
  have := congrArg (fun l => (rows l).length) this
  simp only [rows_app, List.length_append] at this
  omega
def plD (P : List Itm) (n : List Nat) : D := .int (plc P n)
theorem pls_loop (P : List Itm) (nd : (labs P).Nodup) (hP : P.length ≤ 400) (s0 : Sl) : ∀ (R Q : List Itm) (s3 : Sl), Q ++ R = P → free (some s3) →
    ∃ n s3', forL (tgN 3) W_places_of_0 (R.map Itm.enc) [s0, .own (.dct ((labs Q).map kT) ((labs Q).map (plD P))), .shr (.int ((rows Q).length : Nat)), s3] = .nx [s0, .own (.dct ((labs P).map kT) ((labs P).map (plD P))), .shr (.int (n : Nat)), s3']
  | [], Q, s3, e, _ => by
    rw [List.append_nil] at e
    subst e
    exact ⟨_, s3, rfl⟩
  | i :: R, Q, s3, e, hf => by
    have e' : (Q ++ [i]) ++ R = P := by rw [List.append_assoc]; exact e
    have lq : (labs Q).length ≤ 400 := by
      have := labs_le Q
      have := congrArg List.length e
      rw [List.length_append] at this
      omega
    have a := lab_word i
    have im : D.imms ((labs Q).map (plD P)) = true := by
      generalize labs Q = L
      induction L with
      | nil => rfl
      | cons x r ih => rw [List.map_cons, imms_cons, ih]; rfl
    have st : W_places_of_0 [s0, .own (.dct ((labs Q).map kT) ((labs Q).map (plD P))), .shr (.int ((rows Q).length : Nat)), .shr i.enc] = .nx [s0, .own (.dct ((labs (Q ++ [i])).map kT) ((labs (Q ++ [i])).map (plD P))), .shr (.int ((rows (Q ++ [i])).length : Nat)), .shr i.enc] := by
      by_cases hl : i.isLab = true
      · obtain ⟨n, rfl⟩ : ∃ n, i = .label n := by
          cases i <;> first | exact ⟨_, rfl⟩ | cases hl
        have nin : n ∉ labs Q := by
          intro h
          rw [← e, labs_app, show labs (Itm.label n :: R) = n :: labs R from rfl] at nd
          exact (List.nodup_append.mp nd).2.2 n h n List.mem_cons_self rfl
        have hk : hasK ((labs Q).map kT) (.inr (tx n)) = false := by
          have := hasK_names (labs Q) n
          rw [decide_eq_false nin] at this
          exact this
        have pv : plD P n = .int (rows Q).length := by
          unfold plD
          rw [← e, plc_app nin]
        have l1 : ((labs Q).map kT).length < 1000000 := by rw [List.length_map]; omega
        have r1 : rows (Q ++ [Itm.label n]) = rows Q := by rw [rows_app]; exact List.append_nil _
        rw [labs_app, show labs [Itm.label n] = [n] from rfl, List.map_append, List.map_append, r1, List.map_cons, List.map_cons, List.map_nil, List.map_nil, pv]
        have k1 : putKs ((labs Q).map kT) (.inr (tx n)) = (labs Q).map kT ++ [kT n] := by
          unfold putKs
          rw [hk]
          rfl
        have k2 : putDs ((labs Q).map kT) ((labs Q).map (plD P)) (.inr (tx n)) (.int (rows Q).length) = (labs Q).map (plD P) ++ [.int (rows Q).length] := by
          unfold putDs
          rw [hk]
          rfl
        rw [show (Itm.label n).enc = D.tup [.str (tx [108, 97, 98, 101, 108]), .str (tx n)] from rfl]
        generalize (labs Q).map kT = KS at *
        generalize (labs Q).map (plD P) = DS at *
        simp -implicitDefEqProofs [stSl_sh, stSl_fr, W_places_of_0, im, l1, k1, k2]
      · have hl' : i.isLab = false := by cases h : i.isLab; rfl; exact absurd h hl
        have r1 : rows (Q ++ [i]) = rows Q ++ [i] := by
          rw [rows_app]
          congr 1
          show List.filter _ _ = _
          rw [List.filter_cons, hl']
          rfl
        have r2 : labs (Q ++ [i]) = labs Q := by
          have z : labs [i] = [] := labs_rows fun x hx => by rw [List.mem_singleton.mp hx]; exact hl'
          rw [labs_app, z, List.append_nil]
        rw [r1, r2, List.length_append]
        generalize (labs Q).map kT = KS at *
        generalize (labs Q).map (plD P) = DS at *
        unfold Itm.enc at *
        simp -implicitDefEqProofs [stSl_sh, stSl_fr, W_places_of_0, a, hl']
    obtain ⟨n, s3', c⟩ := pls_loop P nd hP s0 R (Q ++ [i]) (.shr i.enc) e' trivial
    refine ⟨n, s3', ?_⟩
    rw [List.map_cons]
    unfold forL
    rw [tgN_eq, stSl_sh (by exact hf)]
    simp only [List.set_cons_succ, List.set_cons_zero, st]
    exact c
theorem places_of_eq {P : List Itm} (hP : Prog P) : F_places_of [.lst (P.map Itm.enc)] = .ok (.dct ((labs P).map kT) ((labs P).map (plD P))) := by
  obtain ⟨n, s3, e⟩ := pls_loop P hP.nd hP.len (.shr (.lst (P.map Itm.enc))) P [] .nil rfl trivial
  rw [labs_nil, List.map_nil, List.map_nil, show (((rows []).length : Nat) : Int) = 0 from rfl] at e
  have i1 := imms_encs P
  unfold F_places_of B_places_of
  rw [fnD_eq 1 4 _ _ rfl]
  generalize (labs P).map kT = KS at *
  generalize (labs P).map (plD P) = DS at *
  generalize P.map Itm.enc = PE at *
  simp -implicitDefEqProofs [stSl_sh, stSl_fr, e, i1]
theorem place_of_eq {P : List Itm} (hP : Prog P) {n : List Nat} (hn : n ∈ labs P) : F_place_of [.lst (P.map Itm.enc), .str (tx n)] = .ok (.int (plc P n)) := by
  have e := places_of_eq hP
  have h1 := hasK_names (labs P) n
  rw [decide_eq_true hn] at h1
  have h1 : hasK ((labs P).map kT) (.inr (tx n)) = true := h1
  have h2 : lkD ((labs P).map kT) ((labs P).map (plD P)) (.inr (tx n)) = some (.int (plc P n)) := lkD_names (labs P) (plD P) n hn
  have i1 := imms_encs P
  unfold F_place_of B_place_of
  rw [fnD_eq 2 3 _ _ rfl]
  generalize (labs P).map kT = KS at *
  generalize (labs P).map (plD P) = DS at *
  generalize P.map Itm.enc = PE at *
  simp -implicitDefEqProofs [stSl_sh, stSl_fr, e, i1, h1, h2]

end Dn
set_option Elab.async false
set_option linter.all false
set_option maxRecDepth 100000
set_option maxHeartbeats 1000000
namespace Dn
open PySem L2
/-! alike -/
theorem alike1 (p : D) (h : (∃ i, p = .int i) ∨ ∃ s : Str, s.length ≤ 1000000 ∧ p = .str s) : F__law_alike_r1 [p, p] = .ok (.bl true) := by
  unfold F__law_alike_r1 B__law_alike_r1
  rw [fnD_eq 2 3 _ _ rfl]
  rcases h with ⟨i, rfl⟩ | ⟨s, hs, rfl⟩
  · have w : F__law_whole [.int i] = .ok (.bl true) := by
      unfold F__law_whole B__law_whole
      rw [fnD_eq 1 1 _ _ rfl]
      simp -implicitDefEqProofs [stSl_sh, stSl_fr]
    simp -implicitDefEqProofs [stSl_sh, stSl_fr, w]
  · simp -implicitDefEqProofs [stSl_sh, stSl_fr]
theorem tl_parts (i : Itm) (ok : i.ok) : ∀ p ∈ .str (tx i.word) :: i.tl, (∃ k, p = D.int k) ∨ ∃ s : Str, s.length ≤ 1000000 ∧ p = .str s := by
  have st : ∀ l : List Nat, l.length ≤ 100 → (∃ k, D.str (tx l) = D.int k) ∨ ∃ s : Str, s.length ≤ 1000000 ∧ D.str (tx l) = .str s := fun l h => .inr ⟨_, by rw [tx_len]; omega, rfl⟩
  have nm : ∀ l : List Nat, isNm l → (∃ k, D.str (tx l) = D.int k) ∨ ∃ s : Str, s.length ≤ 1000000 ∧ D.str (tx l) = .str s := fun l h => st l (by have := h.2.1; omega)
  have mk : ∀ m : Mrk, (∃ k, D.str (tx m.w) = D.int k) ∨ ∃ s : Str, s.length ≤ 1000000 ∧ D.str (tx m.w) = .str s := fun m => st _ (by cases m <;> decide)
  have wd : (∃ k, D.str (tx i.word) = D.int k) ∨ ∃ s : Str, s.length ≤ 1000000 ∧ D.str (tx i.word) = .str s := st _ (by
    rcases i with n | n | ⟨u, m, n⟩ | ⟨h', d, n⟩ | ⟨w, d, s⟩ | ⟨r, d, n⟩ | ⟨w, d, s, n⟩ | _
    · simp [Itm.word]
    · simp [Itm.word]
    · cases u <;> simp [Itm.word]
    · cases h' <;> simp [Itm.word]
    · cases w <;> simp [Itm.word, TwoW.w]
    · cases r <;> simp [Itm.word]
    · cases w <;> simp [Itm.word, HeldW.w]
    · simp [Itm.word])
  intro p hp
  rcases List.mem_cons.mp hp with rfl | hp
  · exact wd
  · rcases i with n | n | ⟨u, m, n⟩ | ⟨h', d, n⟩ | ⟨w, d, s⟩ | ⟨r, d, n⟩ | ⟨w, d, s, n⟩ | _ <;> simp only [Itm.tl, List.mem_cons, List.not_mem_nil, or_false] at hp
    · rw [hp]; exact nm _ ok
    · rw [hp]; exact nm _ ok
    · rcases hp with rfl | rfl
      · exact mk _
      · exact nm _ ok
    · rcases hp with rfl | rfl <;> exact .inl ⟨_, rfl⟩
    · rcases hp with rfl | rfl <;> exact .inl ⟨_, rfl⟩
    · rcases hp with rfl | rfl <;> exact .inl ⟨_, rfl⟩
    · rcases hp with rfl | rfl | rfl <;> exact .inl ⟨_, rfl⟩
theorem lc_alike2 (ps : List D) (h : ∀ p ∈ ps, F__law_alike_r1 [p, p] = .ok (.bl true)) (a : D) (ha : ∀ k : Nat, ixD a (.int k) = atI ps (k : Int)) (ρ : Rho) (h0 : ρ[0]? = some (.shr a)) (h1 : ρ[1]? = some (.shr a)) (h2 : free ρ[2]?) : lcL (tgN 2) tYes' C__law_alike_r2_0 ρ (rngD 0 ps.length) = .ok (((List.range ps.length).map fun _ => true).map .bl, .fr) := by
  have hl := free_lt h2
  rw [ints_range]
  have := lcL_fun (e := fun (k : Nat) => D.int k) (st := tgN 2) (t := tYes') (f := C__law_alike_r2_0) (ρ := ρ) (p := fun _ => true) (g := fun _ => .bl true) (P := List.range ps.length) fun k hk => by
    have hk := List.mem_range.mp hk
    have at' : ixD a (.int (k : Nat)) = some ps[k] := by
      rw [ha, atI_get' (by omega) (by omega), Int.toNat_natCast, List.getElem?_eq_getElem hk]
    have e := h ps[k] (List.getElem_mem hk)
    refine ⟨ρ.set 2 (.shr (.int (k : Nat))), by rw [tgN_eq]; exact stSl_sh h2, rfl, fun _ => ⟨.fr, ?_, rfl⟩⟩
    generalize ps[k] = p at *
    simp -implicitDefEqProofs [stSl_sh, stSl_fr, C__law_alike_r2_0, hl, h0, h1, at', e]
  rw [this, List.filter_eq_self.mpr fun _ _ => rfl, List.map_map]
  rfl
theorem lc_alike3 (ps : List D) (h : ∀ p ∈ ps, F__law_alike_r2 [p, p] = .ok (.bl true)) (a : D) (ha : ∀ k : Nat, ixD a (.int k) = atI ps (k : Int)) (ρ : Rho) (h0 : ρ[0]? = some (.shr a)) (h1 : ρ[1]? = some (.shr a)) (h2 : free ρ[2]?) : lcL (tgN 2) tYes' C__law_alike_r3_0 ρ (rngD 0 ps.length) = .ok (((List.range ps.length).map fun _ => true).map .bl, .fr) := by
  have hl := free_lt h2
  rw [ints_range]
  have := lcL_fun (e := fun (k : Nat) => D.int k) (st := tgN 2) (t := tYes') (f := C__law_alike_r3_0) (ρ := ρ) (p := fun _ => true) (g := fun _ => .bl true) (P := List.range ps.length) fun k hk => by
    have hk := List.mem_range.mp hk
    have at' : ixD a (.int (k : Nat)) = some ps[k] := by
      rw [ha, atI_get' (by omega) (by omega), Int.toNat_natCast, List.getElem?_eq_getElem hk]
    have e := h ps[k] (List.getElem_mem hk)
    refine ⟨ρ.set 2 (.shr (.int (k : Nat))), by rw [tgN_eq]; exact stSl_sh h2, rfl, fun _ => ⟨.fr, ?_, rfl⟩⟩
    generalize ps[k] = p at *
    simp -implicitDefEqProofs [stSl_sh, stSl_fr, C__law_alike_r3_0, hl, h0, h1, at', e]
  rw [this, List.filter_eq_self.mpr fun _ _ => rfl, List.map_map]
  rfl
theorem all_true (n : Nat) : (((List.range n).map fun _ => true).all id) = true := by
  rw [List.all_eq_true]
  intro b hb
  obtain ⟨_, _, rfl⟩ := List.mem_map.mp hb
  rfl
theorem alike_item {i : Itm} (ok : i.ok) : F__law_alike_r2 [i.enc, i.enc] = .ok (.bl true) := by
  have lc := lc_alike2 (.str (tx i.word) :: i.tl) (fun p hp => alike1 p (tl_parts i ok p hp)) i.enc (fun k => rfl)
  have ee : i.enc = .tup (.str (tx i.word) :: i.tl) := rfl
  have at1 := all_true (D.str (tx i.word) :: i.tl).length
  have ln : (D.str (tx i.word) :: i.tl).length ≤ 4 := by
    cases i <;> simp [Itm.tl]
  have l1 : ((List.range (D.str (tx i.word) :: i.tl).length).map fun _ => true).length ≤ 1000000 := by rw [List.length_map, List.length_range]; omega
  have bb : -1000000000 ≤ ((D.str (tx i.word) :: i.tl).length : Int) ∧ ((D.str (tx i.word) :: i.tl).length : Int) ≤ 1000000000 := by omega
  rw [ee] at lc ⊢
  unfold F__law_alike_r2 B__law_alike_r2
  rw [fnD_eq 2 3 _ _ rfl]
  generalize (D.str (tx i.word) :: i.tl) = ps at *
  generalize ((List.range ps.length).map fun _ => true) = BS at *
  simp -implicitDefEqProofs [stSl_sh, stSl_fr, lc, at1, l1, bb]
theorem alike_items {P : List Itm} (ok : ∀ i ∈ P, i.ok) (hl : P.length ≤ 1000) : F__law_alike_r3 [.lst (P.map Itm.enc), .lst (P.map Itm.enc)] = .ok (.bl true) := by
  have lc := lc_alike3 (P.map Itm.enc) (fun p hp => by
    obtain ⟨i, hi, rfl⟩ := List.mem_map.mp hp
    exact alike_item (ok i hi)) (.lst (P.map Itm.enc)) (fun k => rfl)
  have at1 := all_true (P.map Itm.enc).length
  have ln : (P.map Itm.enc).length ≤ 1000 := by rw [List.length_map]; exact hl
  have l1 : ((List.range (P.map Itm.enc).length).map fun _ => true).length ≤ 1000000 := by rw [List.length_map, List.length_range]; omega
  have bb : -1000000000 ≤ ((P.map Itm.enc).length : Int) ∧ ((P.map Itm.enc).length : Int) ≤ 1000000000 := by omega
  unfold F__law_alike_r3 B__law_alike_r3
  rw [fnD_eq 2 3 _ _ rfl]
  generalize P.map Itm.enc = ps at *
  generalize ((List.range ps.length).map fun _ => true) = BS at *
  simp -implicitDefEqProofs [stSl_sh, stSl_fr, lc, at1, l1, bb]

end Dn
set_option Elab.async false
set_option linter.all false
set_option maxRecDepth 100000
set_option maxHeartbeats 1000000
namespace Dn
open PySem L2
/-! law k11 -/
theorem class_eq : F__law_class 3 = .ok (.str (tx [108, 97, 98, 101, 108])) := by
  refine fnE_eq 2 _ 3 _ ?_
  simp -implicitDefEqProofs [stSl_sh, stSl_fr, B__law_class, subB]
theorem place_none {P : List Itm} (hP : Prog P) {n : List Nat} (hn : n ∉ labs P) : F_place_of [.lst (P.map Itm.enc), .str (tx n)] = .ex 3 := by
  have e := places_of_eq hP
  have h1 := hasK_names (labs P) n
  rw [decide_eq_false hn] at h1
  have h1 : hasK ((labs P).map kT) (.inr (tx n)) = false := h1
  have i1 := imms_encs P
  unfold F_place_of B_place_of
  rw [fnD_eq 2 3 _ _ rfl]
  generalize (labs P).map kT = KS at *
  generalize (labs P).map (plD P) = DS at *
  generalize P.map Itm.enc = PE at *
  simp -implicitDefEqProofs [stSl_sh, stSl_fr, e, i1, h1]
theorem lplace_in {P : List Itm} (hP : Prog P) {n : List Nat} (hn : n ∈ labs P) : F__law_place [.lst (P.map Itm.enc), .str (tx n)] = .ok (.tup [.str (tx []), .int (plc P n)]) := by
  have e := place_of_eq hP hn
  have i1 := imms_encs P
  unfold F__law_place B__law_place
  rw [fnD_eq 2 3 _ _ rfl]
  generalize P.map Itm.enc = PE at *
  simp -implicitDefEqProofs [stSl_sh, stSl_fr, e, i1]
theorem lplace_out {P : List Itm} (hP : Prog P) {n : List Nat} (hn : n ∉ labs P) : F__law_place [.lst (P.map Itm.enc), .str (tx n)] = .ok (.tup [.str (tx [108, 97, 98, 101, 108]), .non]) := by
  have e := place_none hP hn
  have c := class_eq
  have i1 := imms_encs P
  unfold F__law_place B__law_place
  rw [fnD_eq 2 3 _ _ rfl]
  generalize P.map Itm.enc = PE at *
  simp -implicitDefEqProofs [stSl_sh, stSl_fr, e, c, i1, subB]
theorem whole_eq (i : Int) : F__law_whole [.int i] = .ok (.bl true) := by
  unfold F__law_whole B__law_whole
  rw [fnD_eq 1 1 _ _ rfl]
  simp -implicitDefEqProofs [stSl_sh, stSl_fr]
theorem lc_due (P : List Itm) (ρ : Rho) (h1 : free ρ[7]?) : lcL (tgN 7) T_law_0 (eVar 7) ρ (P.map Itm.enc) = .ok ((rows P).map Itm.enc, .fr) := by
  have hl := free_lt h1
  refine lcL_items (g := Itm.enc) fun i hi => ?_
  refine ⟨ρ.set 7 (.shr i.enc), by rw [tgN_eq, stSl_sh h1], ?_, fun _ => ⟨.sh, ?_, md_enc _ _⟩⟩
  · have a := lab_word i
    unfold Itm.enc
    simp -implicitDefEqProofs [stSl_sh, stSl_fr, T_law_0, hl, a]
  · simp -implicitDefEqProofs [stSl_sh, stSl_fr, hl]
theorem places_loop (P : List Itm) (nd : (labs P).Nodup) (hP : P.length ≤ 400) (s0 s1 s2 s3 s4 : Sl) : ∀ (R Q : List Itm) (s7 : Sl), Q ++ R = P → free (some s7) →
    ∃ n s7', forL (tgN 7) W_law_1 (R.map Itm.enc) [s0, s1, s2, s3, s4, .own (.dct ((labs Q).map kT) ((labs Q).map (plD P))), .shr (.int ((rows Q).length : Nat)), s7, .nil, .nil, .nil] = .nx [s0, s1, s2, s3, s4, .own (.dct ((labs P).map kT) ((labs P).map (plD P))), .shr (.int (n : Nat)), s7', .nil, .nil, .nil]
  | [], Q, s3, e, _ => by
    rw [List.append_nil] at e
    subst e
    exact ⟨_, s3, rfl⟩
  | i :: R, Q, s7, e, hf => by
    have e' : (Q ++ [i]) ++ R = P := by rw [List.append_assoc]; exact e
    have lq : (labs Q).length ≤ 400 := by
      have := labs_le Q
      have := congrArg List.length e
      rw [List.length_append] at this
      omega
    have a := lab_word i
    have im : D.imms ((labs Q).map (plD P)) = true := by
      generalize labs Q = L
      induction L with
      | nil => rfl
      | cons x r ih => rw [List.map_cons, imms_cons, ih]; rfl
    have st : W_law_1 [s0, s1, s2, s3, s4, .own (.dct ((labs Q).map kT) ((labs Q).map (plD P))), .shr (.int ((rows Q).length : Nat)), .shr i.enc, .nil, .nil, .nil] = .nx [s0, s1, s2, s3, s4, .own (.dct ((labs (Q ++ [i])).map kT) ((labs (Q ++ [i])).map (plD P))), .shr (.int ((rows (Q ++ [i])).length : Nat)), .shr i.enc, .nil, .nil, .nil] := by
      by_cases hl : i.isLab = true
      · obtain ⟨n, rfl⟩ : ∃ n, i = .label n := by
          cases i <;> first | exact ⟨_, rfl⟩ | cases hl
        have nin : n ∉ labs Q := by
          intro h
          rw [← e, labs_app, show labs (Itm.label n :: R) = n :: labs R from rfl] at nd
          exact (List.nodup_append.mp nd).2.2 n h n List.mem_cons_self rfl
        have hk : hasK ((labs Q).map kT) (.inr (tx n)) = false := by
          have := hasK_names (labs Q) n
          rw [decide_eq_false nin] at this
          exact this
        have pv : plD P n = .int (rows Q).length := by
          unfold plD
          rw [← e, plc_app nin]
        have l1 : ((labs Q).map kT).length < 1000000 := by rw [List.length_map]; omega
        have r1 : rows (Q ++ [Itm.label n]) = rows Q := by rw [rows_app]; exact List.append_nil _
        rw [labs_app, show labs [Itm.label n] = [n] from rfl, List.map_append, List.map_append, r1, List.map_cons, List.map_cons, List.map_nil, List.map_nil, pv]
        have k1 : putKs ((labs Q).map kT) (.inr (tx n)) = (labs Q).map kT ++ [kT n] := by
          unfold putKs
          rw [hk]
          rfl
        have k2 : putDs ((labs Q).map kT) ((labs Q).map (plD P)) (.inr (tx n)) (.int (rows Q).length) = (labs Q).map (plD P) ++ [.int (rows Q).length] := by
          unfold putDs
          rw [hk]
          rfl
        rw [show (Itm.label n).enc = D.tup [.str (tx [108, 97, 98, 101, 108]), .str (tx n)] from rfl]
        generalize (labs Q).map kT = KS at *
        generalize (labs Q).map (plD P) = DS at *
        simp -implicitDefEqProofs [stSl_sh, stSl_fr, W_law_1, im, l1, k1, k2]
      · have hl' : i.isLab = false := by cases h : i.isLab; rfl; exact absurd h hl
        have r1 : rows (Q ++ [i]) = rows Q ++ [i] := by
          rw [rows_app]
          congr 1
          show List.filter _ _ = _
          rw [List.filter_cons, hl']
          rfl
        have r2 : labs (Q ++ [i]) = labs Q := by
          have z : labs [i] = [] := labs_rows fun x hx => by rw [List.mem_singleton.mp hx]; exact hl'
          rw [labs_app, z, List.append_nil]
        rw [r1, r2, List.length_append]
        generalize (labs Q).map kT = KS at *
        generalize (labs Q).map (plD P) = DS at *
        unfold Itm.enc at *
        simp -implicitDefEqProofs [stSl_sh, stSl_fr, W_law_1, a, hl']
    obtain ⟨n, s3', c⟩ := places_loop P nd hP s0 s1 s2 s3 s4 R (Q ++ [i]) (.shr i.enc) e' trivial
    refine ⟨n, s3', ?_⟩
    rw [List.map_cons]
    unfold forL
    rw [tgN_eq, stSl_sh (by exact hf)]
    simp only [List.set_cons_succ, List.set_cons_zero, st]
    exact c
theorem lk_place {P : List Itm} {n : List Nat} (hn : n ∈ labs P) : lkD ((labs P).map kT) ((labs P).map (plD P)) (.inr (tx n)) = some (.int (plc P n)) := lkD_names (labs P) (plD P) n hn
theorem told_loop {P : List Itm} (hP : Prog P) (s0 s1 s3 s4 s6 s7 : Sl) : ∀ (L : List (List Nat)) (s8 s9 : Sl), (∀ n ∈ L, n ∈ labs P) → free (some s8) → free (some s9) →
    ∃ s8' s9', free (some s8') ∧ free (some s9') ∧ forL (tgN 8) W_law_2 (wkKeys (L.map kT) []) [s0, s1, .own (.lst (P.map Itm.enc)), s3, s4, .shr (.dct ((labs P).map kT) ((labs P).map (plD P))), s6, s7, s8, s9, .nil] = .nx [s0, s1, .own (.lst (P.map Itm.enc)), s3, s4, .shr (.dct ((labs P).map kT) ((labs P).map (plD P))), s6, s7, s8', s9', .nil]
  | [], s8, s9, _, f8, f9 => ⟨s8, s9, f8, f9, rfl⟩
  | n :: L, s8, s9, h, f8, f9 => by
    have hn := h n List.mem_cons_self
    have pl := lplace_in hP hn
    have lk := lk_place hn
    have wh := whole_eq (plc P n)
    have w : W_law_2 [s0, s1, .own (.lst (P.map Itm.enc)), s3, s4, .shr (.dct ((labs P).map kT) ((labs P).map (plD P))), s6, s7, .shr (.str (tx n)), s9, .nil] = .nx [s0, s1, .own (.lst (P.map Itm.enc)), s3, s4, .shr (.dct ((labs P).map kT) ((labs P).map (plD P))), s6, s7, .shr (.str (tx n)), .shr (.tup [.str (tx []), .int (plc P n)]), .nil] := by
      generalize (labs P).map kT = KS at *
      generalize (labs P).map (plD P) = DS at *
      generalize P.map Itm.enc = PE at *
      simp -implicitDefEqProofs [stSl_sh, stSl_fr, W_law_2, pl, lk, wh, f9]
    obtain ⟨s8', s9', g8, g9, c⟩ := told_loop hP s0 s1 s3 s4 s6 s7 L (.shr (.str (tx n))) (.shr (.tup [.str (tx []), .int (plc P n)])) (fun m hm => h m (List.mem_cons_of_mem _ hm)) trivial trivial
    refine ⟨s8', s9', g8, g9, ?_⟩
    show forL (tgN 8) W_law_2 (.str (tx n) :: wkKeys (L.map kT) []) _ = _
    unfold forL
    rw [tgN_eq, stSl_sh (by exact f8)]
    simp only [List.set_cons_succ, List.set_cons_zero, w]
    exact c

end Dn
set_option Elab.async false
set_option linter.all false
set_option maxRecDepth 100000
set_option maxHeartbeats 1000000
namespace Dn
open PySem L2
/-! law k11 -/
theorem five_at (x : Int) (h0 : 0 ≤ x) (h1 : x < 5) : ∃ w : List Nat, w.length ≤ 7 ∧ atI [D.str (tx [115, 116, 114, 97, 110, 103, 101]), .str (tx [97]), .str (tx [97, 100, 100]), .str (tx [115, 116, 111, 112]), .str (tx [122, 122])] x = some (.str (tx w)) := by
  have : x = 0 ∨ x = 1 ∨ x = 2 ∨ x = 3 ∨ x = 4 := by omega
  rcases this with rfl | rfl | rfl | rfl | rfl
  · exact ⟨[115, 116, 114, 97, 110, 103, 101], by decide, by simp⟩
  · exact ⟨[97], by decide, by simp⟩
  · exact ⟨[97, 100, 100], by decide, by simp⟩
  · exact ⟨[115, 116, 111, 112], by decide, by simp⟩
  · exact ⟨[122, 122], by decide, by simp⟩
theorem word_step {P : List Itm} (hP : Prog P) (ns : List Int) (c : Int) (ec : F__law_cell_at [.scr ns, .int 0] = .ok (.int c)) (s1 s2 s3 s4 s6 s7 s8 s9 : Sl) (w0 : List Nat) (hw : w0.length ≤ 7) :
    ∃ w : List Nat, w.length ≤ 10 ∧ (sIf (tOf (eBin oGt (eFn oLen (eCons (eVar 5) eNil)) (eC (.int 0)))) (sAsg 10 (eIx (eLst (eCons (eVar 10) (eCons (eAdd (eSl (eIx (eCopy lstOf (eCons (eVar 5) eNil)) (eC (.int 0))) pNo (pAt (eUn oNeg (eC (.int 1))))) (eC (.str (tx [120])))) (eCons (eAdd (eIx (eCopy lstOf (eCons (eVar 5) eNil)) (eC (.int 0))) (eC (.str (tx [121])))) eNil)))) (eBin oMod (eBin oDiv (eCall F__law_cell_at (eCons (eVar 0) (eCons (eC (.int 0)) eNil))) (eC (.int 5))) (eC (.int 3))))) fPass)
      [.shr (.scr ns), s1, s2, s3, s4, .shr (.dct ((labs P).map kT) ((labs P).map (plD P))), s6, s7, s8, s9, .shr (.str (tx w0))] = .nx [.shr (.scr ns), s1, s2, s3, s4, .shr (.dct ((labs P).map kT) ((labs P).map (plD P))), s6, s7, s8, s9, .shr (.str (tx w))] := by
  have ll := labs_le P
  have hlen := hP.len
  have lK : ((labs P).map kT).length = (labs P).length := List.length_map _
  cases hL : labs P with
  | nil =>
    refine ⟨w0, by omega, ?_⟩
    simp -implicitDefEqProofs [stSl_sh, stSl_fr]
  | cons n0 r =>
    have n8 : n0.length ≤ 8 := by
      have : n0 ∈ labs P := by rw [hL]; exact List.mem_cons_self
      have ok : isNm n0 := hP.ok _ (mem_labs.mp this)
      exact ok.2.1
    have lr : r.length ≤ 400 := by rw [hL, List.length_cons] at ll; omega
    have x0 := Int.emod_nonneg (c / 5) (show (3 : Int) ≠ 0 by decide)
    have x1 := Int.emod_lt_of_pos (c / 5) (show (0 : Int) < 3 by decide)
    have kk : keyD (kT n0) = .str (tx n0) := rfl
    have p1 : (0 : Int) < (r.length : Int) + 1 := by omega
    have l1 : r.length ≤ 999999 := by omega
    have i1 : ((r.map kT).map keyD).length = r.length := by rw [List.length_map, List.length_map]
    have j1 : D.imms ((r.map kT).map keyD) = true := imms_mem fun d hd => by
      obtain ⟨k, _, rfl⟩ := List.mem_map.mp hd
      cases k <;> rfl
    have i2 : (n0.length : Int) ≤ 1000000 := by omega
    have i3 : n0.length ≤ 1000000 := by omega
    have i4 : n0.length ≤ 999999 := by omega
    have i5 : n0.length - 1 ≤ 999999 := by omega
    have i6 : n0.dropLast.length ≤ 999999 := by rw [List.length_dropLast]; omega
    have cs : cutS (tx n0) none (some (-1)) = tx n0.dropLast := by
      rw [cutS_eq, tx_cps, cut_butlast]
      rfl
    have : c / 5 % 3 = 0 ∨ c / 5 % 3 = 1 ∨ c / 5 % 3 = 2 := by omega
    rcases this with h | h | h
    · refine ⟨w0, by omega, ?_⟩
      simp -implicitDefEqProofs [stSl_sh, stSl_fr, ec, h, kk, p1, l1, i1, j1, i3, i4, i5, i6, cs]
    · refine ⟨n0.dropLast ++ [120], by rw [List.length_append, List.length_dropLast]; simp; omega, ?_⟩
      simp -implicitDefEqProofs [stSl_sh, stSl_fr, ec, h, kk, p1, l1, i1, j1, i3, i4, i5, i6, cs]
    · refine ⟨n0 ++ [121], by rw [List.length_append]; simp; omega, ?_⟩
      simp -implicitDefEqProofs [stSl_sh, stSl_fr, ec, h, kk, p1, l1, i1, j1, i3, i4, i5, i6, cs]
theorem math : ∀ ns : List Int, ns.length ≤ 63 → BitsOk ns → F_law [.scr ns] = .ok (.bl true) := by
  intro ns hl hb
  obtain ⟨P, hP, r9, l40, e1⟩ := program_eq ns 1 (by decide)
  have e1 : F__law_program [.scr ns, .int 1] = .ok (.lst (P.map Itm.enc)) := e1
  have ec := cell_eq ns 0 (by decide)
  generalize cl ns 0 = c at ec
  have rl := rows_le P
  have ro := rows_of_eq P hP.len
  have okR : ∀ i ∈ rows P, i.ok := fun i hi => hP.ok i (List.mem_filter.mp hi).1
  have ali := alike_items okR (by omega)
  have lc := lc_due P
  obtain ⟨n, s7, q1⟩ := places_loop P hP.nd hP.len (.shr (.scr ns)) (.shr (.lst (P.map Itm.enc))) (.own (.lst (P.map Itm.enc))) (.own (.lst ((rows P).map Itm.enc))) (.own (.lst ((rows P).map Itm.enc ++ [.tup [.str (tx [115, 116, 111, 112])]]))) P [] .nil rfl trivial
  rw [labs_nil, List.map_nil, List.map_nil, show (((rows []).length : Nat) : Int) = 0 from rfl] at q1
  obtain ⟨s8, s9, f8, f9, q2⟩ := told_loop hP (.shr (.scr ns)) (.shr (.lst (P.map Itm.enc))) (.own (.lst ((rows P).map Itm.enc))) (.own (.lst ((rows P).map Itm.enc ++ [.tup [.str (tx [115, 116, 111, 112])]]))) (.shr (.int (n : Nat))) s7 (labs P) .nil .nil (fun _ h => h) trivial trivial
  have q2' : ∀ DS : List D, wkKeys ((labs P).map kT) DS = wkKeys ((labs P).map kT) [] := fun _ => rfl
  obtain ⟨w0, hw0, ew⟩ := five_at (c % 5) (Int.emod_nonneg c (by decide)) (Int.emod_lt_of_pos c (by decide))
  obtain ⟨w, hw, wst⟩ := word_step hP ns c ec (.shr (.lst (P.map Itm.enc))) (.own (.lst (P.map Itm.enc))) (.own (.lst ((rows P).map Itm.enc))) (.own (.lst ((rows P).map Itm.enc ++ [.tup [.str (tx [115, 116, 111, 112])]]))) (.shr (.int (n : Nat))) s7 s8 s9 w0 hw0
  have hk := hasK_names (labs P) w
  have iP := imms_encs P
  have iR := imms_encs (rows P)
  have pP := pls_encs8 P
  have qP : D.eqvs (P.map Itm.enc) (P.map Itm.enc) = true := by rw [eqvs_encs, decide_eq_true rfl]
  have lR : ((rows P).map Itm.enc).length < 1000000 := by rw [List.length_map]; omega
  obtain ⟨LS, hLS⟩ : ∃ f : S, f = (fSeq (sAsg 9 (eCall F__law_place (eCons (eVar 2) (eCons (eVar 10) eNil))))
  (fSeq (sIf (tAnd' (tOf (eBin oNotInX (eVar 10) (eVar 5))) (tOf (eBin oNe (eVar 9) (eTup (eCons (eC (.str (tx [108, 97, 98, 101, 108]))) (eCons (eC .non) eNil)))))) (sRet (eC (.bl false))) fPass)
  (sRet (eAndV (eBin oEq (eVar 2) (eVar 1)) (eCall F__law_alike_r3 (eCons (eCall F_rows_of (eCons (eVar 2) eNil)) (eCons (eVar 3) eNil))))))) := ⟨_, rfl⟩
  have last : (LS [.shr (.scr ns), .shr (.lst (P.map Itm.enc)), .own (.lst (P.map Itm.enc)), .own (.lst ((rows P).map Itm.enc)), .own (.lst ((rows P).map Itm.enc ++ [.tup [.str (tx [115, 116, 111, 112])]])), .shr (.dct ((labs P).map kT) ((labs P).map (plD P))), .shr (.int (n : Nat)), s7, s8, s9, .shr (.str (tx w))]).res = .ok (.bl true) := by
    rw [hLS]
    by_cases z : w ∈ labs P
    · have pl := lplace_in hP z
      rw [decide_eq_true z] at hk
      have hk : hasK ((labs P).map kT) (.inr (tx w)) = true := hk
      generalize (labs P).map kT = KS at *
      generalize (labs P).map (plD P) = DS at *
      generalize (rows P).map Itm.enc = RM at *
      generalize P.map Itm.enc = PM at *
      simp -implicitDefEqProofs [stSl_sh, stSl_fr, pl, hk, ro, ali, iP, iR, pP, qP, f9]
    · have pl := lplace_out hP z
      rw [decide_eq_false z] at hk
      have hk : hasK ((labs P).map kT) (.inr (tx w)) = false := hk
      generalize (labs P).map kT = KS at *
      generalize (labs P).map (plD P) = DS at *
      generalize (rows P).map Itm.enc = RM at *
      generalize P.map Itm.enc = PM at *
      simp -implicitDefEqProofs [stSl_sh, stSl_fr, pl, hk, ro, ali, iP, iR, pP, qP, f9]
  obtain ⟨LT, hLT⟩ : ∃ f : S, f = fSeq (sIf (tOf (eBin oGt (eFn oLen (eCons (eVar 5) eNil)) (eC (.int 0)))) (sAsg 10 (eIx (eLst (eCons (eVar 10) (eCons (eAdd (eSl (eIx (eCopy lstOf (eCons (eVar 5) eNil)) (eC (.int 0))) pNo (pAt (eUn oNeg (eC (.int 1))))) (eC (.str (tx [120])))) (eCons (eAdd (eIx (eCopy lstOf (eCons (eVar 5) eNil)) (eC (.int 0))) (eC (.str (tx [121])))) eNil)))) (eBin oMod (eBin oDiv (eCall F__law_cell_at (eCons (eVar 0) (eCons (eC (.int 0)) eNil))) (eC (.int 5))) (eC (.int 3))))) fPass) LS := ⟨_, rfl⟩
  have last2 : (LT [.shr (.scr ns), .shr (.lst (P.map Itm.enc)), .own (.lst (P.map Itm.enc)), .own (.lst ((rows P).map Itm.enc)), .own (.lst ((rows P).map Itm.enc ++ [.tup [.str (tx [115, 116, 111, 112])]])), .shr (.dct ((labs P).map kT) ((labs P).map (plD P))), .shr (.int (n : Nat)), s7, s8, s9, .shr (.str (tx w0))]).res = .ok (.bl true) := by
    rw [hLT, fSeq_eq, wst]
    exact last
  have lR2 : ((rows P).map Itm.enc).length ≤ 1000000 := by omega
  unfold F_law B_law
  rw [fnD_eq 1 11 _ _ rfl]
  clear hk
  rw [← hLS, ← hLT]
  generalize (labs P).map kT = KS at *
  generalize (labs P).map (plD P) = DS at *
  generalize (rows P).map Itm.enc = RM at *
  generalize P.map Itm.enc = PM at *
  clear hLS hLT
  simp -implicitDefEqProofs [stSl_sh, stSl_fr, e1, ro, ali, lc, q1, q2, q2', ew, ec, iP, iR, pP, qP, lR, lR2, last2]

end Dn
namespace Dn
open PySem L2
theorem law_all {P : Program} {w : World} {mg : Str → Option Value} {G : Cts} (math : ∀ ns : List Int, ns.length ≤ 63 → BitsOk ns → F_law [.scr ns] = .ok (.bl true)) (T : Txt G mg) (A_rows_of : FnAt G mg "rows_of" s_rows_of) (A_places_of : FnAt G mg "places_of" s_places_of) (A_place_of : FnAt G mg "place_of" s_place_of) (A__law_cell_at : FnAt G mg "_law_cell_at" s__law_cell_at) (A__law_whole : FnAt G mg "_law_whole" s__law_whole) (A__law_mixed : FnAt G mg "_law_mixed" s__law_mixed) (A__law_class : FnAt G mg "_law_class" s__law_class) (A__law_letter : FnAt G mg "_law_letter" s__law_letter) (A__law_names : FnAt G mg "_law_names" s__law_names) (A__law_shape : FnAt G mg "_law_shape" s__law_shape) (A__law_words : FnAt G mg "_law_words" s__law_words) (A__law_part_by : FnAt G mg "_law_part_by" s__law_part_by) (A__law_row_by : FnAt G mg "_law_row_by" s__law_row_by) (A__law_program : FnAt G mg "_law_program" s__law_program) (A__law_alike_r0 : FnAt G mg "_law_alike" s__law_alike_r0) (A__law_alike_r1 : FnAt G mg "_law_alike" s__law_alike_r1) (A__law_alike_r2 : FnAt G mg "_law_alike" s__law_alike_r2) (A__law_alike_r3 : FnAt G mg "_law_alike" s__law_alike_r3) (A__law_place : FnAt G mg "_law_place" s__law_place) (A_law : FnAt G mg "law" s_law) {fa : Addr} (hfa : mg "law" = some (.ref fa)) :
    ∃ fd : FuncData, (∀ (s : Shared) (v : Value), BindsTo s fd ⟨[v], []⟩ [("_law_script", v)]) ∧ ∀ base : Heap, FnOk P w G.K mg base (L2.CX P w) 6 fa fd ["_law_script"] (spLaw G.K) := by
  refine law_fd A_law hfa (fun kV doc pm an cdv ct s v => .of_eq rfl) math fun base => ?_
  have c_rows_of : Cal G P w mg base 1 "rows_of" ["items"] F_rows_of := c_rows_of T A_rows_of 
  have c_places_of : Cal G P w mg base 1 "places_of" ["items"] F_places_of := c_places_of T A_places_of 
  have c_place_of : Cal G P w mg base 2 "place_of" ["items", "name"] F_place_of := c_place_of T A_place_of c_places_of
  have c__law_cell_at : Cal G P w mg base 1 "_law_cell_at" ["_law_script", "_law_k"] F__law_cell_at := c__law_cell_at T A__law_cell_at 
  have c__law_whole : Cal G P w mg base 1 "_law_whole" ["_law_found"] F__law_whole := c__law_whole T A__law_whole 
  have c__law_mixed : Cal G P w mg base 1 "_law_mixed" ["_law_cell", "_law_k", "_law_many"] F__law_mixed := c__law_mixed T A__law_mixed 
  have c__law_class : CalE G P w mg base 1 7 "_law_class" ["_law_e"] F__law_class := c__law_class T A__law_class 
  have c__law_letter : Cal G P w mg base 1 "_law_letter" ["_law_k"] F__law_letter := c__law_letter T A__law_letter 
  have c__law_names : Cal G P w mg base 2 "_law_names" ["_law_cell", "_law_many"] F__law_names := c__law_names T A__law_names c__law_letter c__law_mixed
  have c__law_shape : Cal G P w mg base 1 "_law_shape" ["_law_word"] F__law_shape := c__law_shape T A__law_shape 
  have c__law_words : Cal G P w mg base 1 "_law_words" [] F__law_words := c__law_words T A__law_words 
  have c__law_part_by : Cal G P w mg base 2 "_law_part_by" ["_law_kind", "_law_cell", "_law_k", "_law_names_here"] F__law_part_by := c__law_part_by T A__law_part_by c__law_mixed
  have c__law_row_by : Cal G P w mg base 3 "_law_row_by" ["_law_cell", "_law_names_here"] F__law_row_by := c__law_row_by T A__law_row_by c__law_mixed c__law_part_by c__law_shape c__law_words
  have c__law_program : Cal G P w mg base 4 "_law_program" ["_law_script", "_law_first"] F__law_program := c__law_program T A__law_program c__law_cell_at c__law_mixed c__law_names c__law_row_by
  have c__law_alike_r0 : Cal G P w mg base 2 "_law_alike" ["_law_found", "_law_due"] F__law_alike_r0 := c__law_alike_r0 T A__law_alike_r0 c__law_whole
  have c__law_alike_r1 : Cal G P w mg base 3 "_law_alike" ["_law_found", "_law_due"] F__law_alike_r1 := c__law_alike_r1 T A__law_alike_r1 c__law_alike_r0 c__law_whole
  have c__law_alike_r2 : Cal G P w mg base 4 "_law_alike" ["_law_found", "_law_due"] F__law_alike_r2 := c__law_alike_r2 T A__law_alike_r2 c__law_alike_r1 c__law_whole
  have c__law_alike_r3 : Cal G P w mg base 5 "_law_alike" ["_law_found", "_law_due"] F__law_alike_r3 := c__law_alike_r3 T A__law_alike_r3 c__law_alike_r2 c__law_whole
  have c__law_place : Cal G P w mg base 3 "_law_place" ["_law_items", "_law_name"] F__law_place := c__law_place T A__law_place c__law_class c_place_of
  exact c_law T A_law c__law_alike_r3 c__law_cell_at c__law_place c__law_program c__law_whole c_rows_of
end Dn
open PySem PySem.W PyProof.Rows
set_option maxRecDepth 100000 in
set_option maxHeartbeats 0 in
theorem PySem.Challenge.cw_markrun_k11_rows_and_places_holds : PySem.Challenge.rw_markrun_k11_rows_and_places.Holds := by
  w_on; o_law; k_head; (case hw => w_witness2)
  k_fill
  refine Dn.walk (l := PySem.Challenge.rw_markrun_k11_rows_and_places) (k := 6) (x := "_law_script") rfl rfl ⟨rfl, by decide, by decide⟩ (fun w h Y => PySem.W.kIn_of Y) ?F
  case F =>
    intro w mg fa h KX G hmg
    refine' Dn.withE KX (xs := ["RunError", "BadNumber", "BadText", "NoLabel", "BadWords", "BadState", "NoAddress"]) (cs := [_, _, _, _, _, _, _])
      ⟨⟨PySem.W.mg_of KX G ?zg0, ?zx0, ?zk0, ?zb0, ?zt0⟩, ⟨PySem.W.mg_of KX G ?zg1, ?zx1, ?zk1, ?zb1, ?zt1⟩, ⟨PySem.W.mg_of KX G ?zg2, ?zx2, ?zk2, ?zb2, ?zt2⟩, ⟨PySem.W.mg_of KX G ?zg3, ?zx3, ?zk3, ?zb3, ?zt3⟩, ⟨PySem.W.mg_of KX G ?zg4, ?zx4, ?zk4, ?zb4, ?zt4⟩, ⟨PySem.W.mg_of KX G ?zg5, ?zx5, ?zk5, ?zb5, ?zt5⟩, ⟨PySem.W.mg_of KX G ?zg6, ?zx6, ?zk6, ?zb6, ?zt6⟩, trivial⟩
      ⟨?znd, ⟨⟨?zhg0, ?zhk0, ?zhs0, ?zhd0, ?zha0, ?zhn0, ?zht0, ?zhm0⟩, ?zty0, ?zv0, ⟨?zs0_0, ?zs0_1, ?zs0_2, ?zs0_3, ?zs0_4, ?zs0_5, ?zs0_6, trivial⟩⟩, ⟨⟨?zhg1, ?zhk1, ?zhs1, ?zhd1, ?zha1, ?zhn1, ?zht1, ?zhm1⟩, ?zty1, ?zv1, ⟨?zs1_0, ?zs1_1, ?zs1_2, ?zs1_3, ?zs1_4, ?zs1_5, ?zs1_6, trivial⟩⟩, ⟨⟨?zhg2, ?zhk2, ?zhs2, ?zhd2, ?zha2, ?zhn2, ?zht2, ?zhm2⟩, ?zty2, ?zv2, ⟨?zs2_0, ?zs2_1, ?zs2_2, ?zs2_3, ?zs2_4, ?zs2_5, ?zs2_6, trivial⟩⟩, ⟨⟨?zhg3, ?zhk3, ?zhs3, ?zhd3, ?zha3, ?zhn3, ?zht3, ?zhm3⟩, ?zty3, ?zv3, ⟨?zs3_0, ?zs3_1, ?zs3_2, ?zs3_3, ?zs3_4, ?zs3_5, ?zs3_6, trivial⟩⟩, ⟨⟨?zhg4, ?zhk4, ?zhs4, ?zhd4, ?zha4, ?zhn4, ?zht4, ?zhm4⟩, ?zty4, ?zv4, ⟨?zs4_0, ?zs4_1, ?zs4_2, ?zs4_3, ?zs4_4, ?zs4_5, ?zs4_6, trivial⟩⟩, ⟨⟨?zhg5, ?zhk5, ?zhs5, ?zhd5, ?zha5, ?zhn5, ?zht5, ?zhm5⟩, ?zty5, ?zv5, ⟨?zs5_0, ?zs5_1, ?zs5_2, ?zs5_3, ?zs5_4, ?zs5_5, ?zs5_6, trivial⟩⟩, ⟨⟨?zhg6, ?zhk6, ?zhs6, ?zhd6, ?zha6, ?zhn6, ?zht6, ?zhm6⟩, ?zty6, ?zv6, ⟨?zs6_0, ?zs6_1, ?zs6_2, ?zs6_3, ?zs6_4, ?zs6_5, ?zs6_6, trivial⟩⟩, trivial⟩ ?zme
    (case zg0 => k_is); (case zx0 => k_exc); (case zk0 => k_is); (case zb0 => k_is); (case zt0 => k_is)
    (case zg1 => k_is); (case zx1 => k_exc); (case zk1 => k_is); (case zb1 => k_is); (case zt1 => k_is)
    (case zg2 => k_is); (case zx2 => k_exc); (case zk2 => k_is); (case zb2 => k_is); (case zt2 => k_is)
    (case zg3 => k_is); (case zx3 => k_exc); (case zk3 => k_is); (case zb3 => k_is); (case zt3 => k_is)
    (case zg4 => k_is); (case zx4 => k_exc); (case zk4 => k_is); (case zb4 => k_is); (case zt4 => k_is)
    (case zg5 => k_is); (case zx5 => k_exc); (case zk5 => k_is); (case zb5 => k_is); (case zt5 => k_is)
    (case zg6 => k_is); (case zx6 => k_exc); (case zk6 => k_is); (case zb6 => k_is); (case zt6 => k_is)
    (case znd => decide)
    (case zhg0 => k_is); (case zhk0 => k_is); (case zhs0 => k_is); (case zhd0 => k_is); (case zha0 => k_is); (case zhn0 => k_is); (case zht0 => k_is); (case zhm0 => k_is); (case zty0 => k_is); (case zv0 => k_is)
    (case zs0_0 => k_is); (case zs0_1 => k_is); (case zs0_2 => k_is); (case zs0_3 => k_is); (case zs0_4 => k_is); (case zs0_5 => k_is); (case zs0_6 => k_is)
    (case zhg1 => k_is); (case zhk1 => k_is); (case zhs1 => k_is); (case zhd1 => k_is); (case zha1 => k_is); (case zhn1 => k_is); (case zht1 => k_is); (case zhm1 => k_is); (case zty1 => k_is); (case zv1 => k_is)
    (case zs1_0 => k_is); (case zs1_1 => k_is); (case zs1_2 => k_is); (case zs1_3 => k_is); (case zs1_4 => k_is); (case zs1_5 => k_is); (case zs1_6 => k_is)
    (case zhg2 => k_is); (case zhk2 => k_is); (case zhs2 => k_is); (case zhd2 => k_is); (case zha2 => k_is); (case zhn2 => k_is); (case zht2 => k_is); (case zhm2 => k_is); (case zty2 => k_is); (case zv2 => k_is)
    (case zs2_0 => k_is); (case zs2_1 => k_is); (case zs2_2 => k_is); (case zs2_3 => k_is); (case zs2_4 => k_is); (case zs2_5 => k_is); (case zs2_6 => k_is)
    (case zhg3 => k_is); (case zhk3 => k_is); (case zhs3 => k_is); (case zhd3 => k_is); (case zha3 => k_is); (case zhn3 => k_is); (case zht3 => k_is); (case zhm3 => k_is); (case zty3 => k_is); (case zv3 => k_is)
    (case zs3_0 => k_is); (case zs3_1 => k_is); (case zs3_2 => k_is); (case zs3_3 => k_is); (case zs3_4 => k_is); (case zs3_5 => k_is); (case zs3_6 => k_is)
    (case zhg4 => k_is); (case zhk4 => k_is); (case zhs4 => k_is); (case zhd4 => k_is); (case zha4 => k_is); (case zhn4 => k_is); (case zht4 => k_is); (case zhm4 => k_is); (case zty4 => k_is); (case zv4 => k_is)
    (case zs4_0 => k_is); (case zs4_1 => k_is); (case zs4_2 => k_is); (case zs4_3 => k_is); (case zs4_4 => k_is); (case zs4_5 => k_is); (case zs4_6 => k_is)
    (case zhg5 => k_is); (case zhk5 => k_is); (case zhs5 => k_is); (case zhd5 => k_is); (case zha5 => k_is); (case zhn5 => k_is); (case zht5 => k_is); (case zhm5 => k_is); (case zty5 => k_is); (case zv5 => k_is)
    (case zs5_0 => k_is); (case zs5_1 => k_is); (case zs5_2 => k_is); (case zs5_3 => k_is); (case zs5_4 => k_is); (case zs5_5 => k_is); (case zs5_6 => k_is)
    (case zhg6 => k_is); (case zhk6 => k_is); (case zhs6 => k_is); (case zhd6 => k_is); (case zha6 => k_is); (case zhn6 => k_is); (case zht6 => k_is); (case zhm6 => k_is); (case zty6 => k_is); (case zv6 => k_is)
    (case zs6_0 => k_is); (case zs6_1 => k_is); (case zs6_2 => k_is); (case zs6_3 => k_is); (case zs6_4 => k_is); (case zs6_5 => k_is); (case zs6_6 => k_is)
    intro cs eA eR
    have T : Dn.Txt (Dn.GK KX fun n => cs.getD n 0) mg := by
      refine' ⟨PySem.W.mg_none_of KX G ?b_ValueError, PySem.W.mg_none_of KX G ?b_all, PySem.W.mg_none_of KX G ?b_bool, PySem.W.mg_none_of KX G ?b_int, PySem.W.mg_none_of KX G ?b_isinstance, PySem.W.mg_none_of KX G ?b_len, PySem.W.mg_none_of KX G ?b_list, PySem.W.mg_none_of KX G ?b_range, PySem.W.mg_none_of KX G ?b_str, PySem.W.mg_none_of KX G ?b_tuple, Dn.AllEx.get eA 0 _ rfl, Dn.AllEx.get eA 1 _ rfl, Dn.AllEx.get eA 2 _ rfl, Dn.AllEx.get eA 3 _ rfl, Dn.AllEx.get eA 4 _ rfl, Dn.AllEx.get eA 5 _ rfl, Dn.AllEx.get eA 6 _ rfl, Dn.ErrL.g eA eR⟩
      (case b_ValueError => k_is)
      (case b_all => k_is)
      (case b_bool => k_is)
      (case b_int => k_is)
      (case b_isinstance => k_is)
      (case b_len => k_is)
      (case b_list => k_is)
      (case b_range => k_is)
      (case b_str => k_is)
      (case b_tuple => k_is)
    have A_rows_of : Dn.FnAt (Dn.GK KX fun n => cs.getD n 0) mg "rows_of" Dn.s_rows_of := by
      refine' Dn.FnAt.of (PySem.W.mg_of KX G ?a) ?l ?c ?k
      (case a => k_is); (case l => k_is); (case c => k_is); (case k => k_is)
    have A_places_of : Dn.FnAt (Dn.GK KX fun n => cs.getD n 0) mg "places_of" Dn.s_places_of := by
      refine' Dn.FnAt.of (PySem.W.mg_of KX G ?a) ?l ?c ?k
      (case a => k_is); (case l => k_is); (case c => k_is); (case k => k_is)
    have A_place_of : Dn.FnAt (Dn.GK KX fun n => cs.getD n 0) mg "place_of" Dn.s_place_of := by
      refine' Dn.FnAt.of (PySem.W.mg_of KX G ?a) ?l ?c ?k
      (case a => k_is); (case l => k_is); (case c => k_is); (case k => k_is)
    have A__law_cell_at : Dn.FnAt (Dn.GK KX fun n => cs.getD n 0) mg "_law_cell_at" Dn.s__law_cell_at := by
      refine' Dn.FnAt.of (PySem.W.mg_of KX G ?a) ?l ?c ?k
      (case a => k_is); (case l => k_is); (case c => k_is); (case k => k_is)
    have A__law_whole : Dn.FnAt (Dn.GK KX fun n => cs.getD n 0) mg "_law_whole" Dn.s__law_whole := by
      refine' Dn.FnAt.of (PySem.W.mg_of KX G ?a) ?l ?c ?k
      (case a => k_is); (case l => k_is); (case c => k_is); (case k => k_is)
    have A__law_mixed : Dn.FnAt (Dn.GK KX fun n => cs.getD n 0) mg "_law_mixed" Dn.s__law_mixed := by
      refine' Dn.FnAt.of (PySem.W.mg_of KX G ?a) ?l ?c ?k
      (case a => k_is); (case l => k_is); (case c => k_is); (case k => k_is)
    have A__law_class : Dn.FnAt (Dn.GK KX fun n => cs.getD n 0) mg "_law_class" Dn.s__law_class := by
      refine' Dn.FnAt.of (PySem.W.mg_of KX G ?a) ?l ?c ?k
      (case a => k_is); (case l => k_is); (case c => k_is); (case k => k_is)
    have A__law_letter : Dn.FnAt (Dn.GK KX fun n => cs.getD n 0) mg "_law_letter" Dn.s__law_letter := by
      refine' Dn.FnAt.of (PySem.W.mg_of KX G ?a) ?l ?c ?k
      (case a => k_is); (case l => k_is); (case c => k_is); (case k => k_is)
    have A__law_names : Dn.FnAt (Dn.GK KX fun n => cs.getD n 0) mg "_law_names" Dn.s__law_names := by
      refine' Dn.FnAt.of (PySem.W.mg_of KX G ?a) ?l ?c ?k
      (case a => k_is); (case l => k_is); (case c => k_is); (case k => k_is)
    have A__law_shape : Dn.FnAt (Dn.GK KX fun n => cs.getD n 0) mg "_law_shape" Dn.s__law_shape := by
      refine' Dn.FnAt.of (PySem.W.mg_of KX G ?a) ?l ?c ?k
      (case a => k_is); (case l => k_is); (case c => k_is); (case k => k_is)
    have A__law_words : Dn.FnAt (Dn.GK KX fun n => cs.getD n 0) mg "_law_words" Dn.s__law_words := by
      refine' Dn.FnAt.of (PySem.W.mg_of KX G ?a) ?l ?c ?k
      (case a => k_is); (case l => k_is); (case c => k_is); (case k => k_is)
    have A__law_part_by : Dn.FnAt (Dn.GK KX fun n => cs.getD n 0) mg "_law_part_by" Dn.s__law_part_by := by
      refine' Dn.FnAt.of (PySem.W.mg_of KX G ?a) ?l ?c ?k
      (case a => k_is); (case l => k_is); (case c => k_is); (case k => k_is)
    have A__law_row_by : Dn.FnAt (Dn.GK KX fun n => cs.getD n 0) mg "_law_row_by" Dn.s__law_row_by := by
      refine' Dn.FnAt.of (PySem.W.mg_of KX G ?a) ?l ?c ?k
      (case a => k_is); (case l => k_is); (case c => k_is); (case k => k_is)
    have A__law_program : Dn.FnAt (Dn.GK KX fun n => cs.getD n 0) mg "_law_program" Dn.s__law_program := by
      refine' Dn.FnAt.of (PySem.W.mg_of KX G ?a) ?l ?c ?k
      (case a => k_is); (case l => k_is); (case c => k_is); (case k => k_is)
    have A__law_alike_r0 : Dn.FnAt (Dn.GK KX fun n => cs.getD n 0) mg "_law_alike" Dn.s__law_alike_r0 := by
      refine' Dn.FnAt.of (PySem.W.mg_of KX G ?a) ?l ?c ?k
      (case a => k_is); (case l => k_is); (case c => k_is); (case k => k_is)
    have A__law_alike_r1 : Dn.FnAt (Dn.GK KX fun n => cs.getD n 0) mg "_law_alike" Dn.s__law_alike_r1 := by
      refine' Dn.FnAt.of (PySem.W.mg_of KX G ?a) ?l ?c ?k
      (case a => k_is); (case l => k_is); (case c => k_is); (case k => k_is)
    have A__law_alike_r2 : Dn.FnAt (Dn.GK KX fun n => cs.getD n 0) mg "_law_alike" Dn.s__law_alike_r2 := by
      refine' Dn.FnAt.of (PySem.W.mg_of KX G ?a) ?l ?c ?k
      (case a => k_is); (case l => k_is); (case c => k_is); (case k => k_is)
    have A__law_alike_r3 : Dn.FnAt (Dn.GK KX fun n => cs.getD n 0) mg "_law_alike" Dn.s__law_alike_r3 := by
      refine' Dn.FnAt.of (PySem.W.mg_of KX G ?a) ?l ?c ?k
      (case a => k_is); (case l => k_is); (case c => k_is); (case k => k_is)
    have A__law_place : Dn.FnAt (Dn.GK KX fun n => cs.getD n 0) mg "_law_place" Dn.s__law_place := by
      refine' Dn.FnAt.of (PySem.W.mg_of KX G ?a) ?l ?c ?k
      (case a => k_is); (case l => k_is); (case c => k_is); (case k => k_is)
    have A_law : Dn.FnAt (Dn.GK KX fun n => cs.getD n 0) mg "law" Dn.s_law := by
      refine' Dn.FnAt.of (PySem.W.mg_of KX G ?a) ?l ?c ?k
      (case a => k_is); (case l => k_is); (case c => k_is); (case k => k_is)
    exact Dn.law_all Dn.math T A_rows_of A_places_of A_place_of A__law_cell_at A__law_whole A__law_mixed A__law_class A__law_letter A__law_names A__law_shape A__law_words A__law_part_by A__law_row_by A__law_program A__law_alike_r0 A__law_alike_r1 A__law_alike_r2 A__law_alike_r3 A__law_place A_law hmg
