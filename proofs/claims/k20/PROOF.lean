import PyProof.Rows.All
import Wide.All
import OpenK.AllK
import Wide.FinOn
import HandS.ForMost
import HandS.ForExc
import HandS.Deep
import HandS.Lambda
import HandS.TupAny
import HandS.IsInst
import HandS.SortInts
import HandS.Wide
import HandS.More
import HandS.ExcIs
import HandS.Star
import HandS.Property
import HandS.TryMany
import KE.KOpsOwn
import HandS.SlotsOwn
import HandS.Style
import HandS.EndTab
import HandS.Conv
import HandS.FStr
import HandS.RaiseMore
import HandS.Text
import KE.GoesMore
import PySem.Challenge.RW_keptpace_k20_loops_changed_in_place
set_option Elab.async false
set_option linter.all false
set_option maxRecDepth 100000
set_option maxHeartbeats 4000000
/-! Pl: a pure layer over the hand layer. Data D, representation by objects that never change, own objects, judgements. -/
namespace Pl
open PySem PySem.Spec L2
/-- data: what a value stands for, deep -/
inductive D where
  | non | bl (b : Bool) | int (i : Int) | str (x : Str) | tup (xs : List D) | lst (xs : List D) | dct (ks vs : List D) | adr (a : Addr) | ty (n : String)
/-- an object that never changes -/
def Perm : HO → Prop
  | .tup _ => True
  | .frz _ _ => True
  | .ext _ => True
  | _ => False
/-- a list that nobody changes any more -/
def FzL (K : PySem.W.Frag) (H : Hp) (a : Addr) (xs : List V) : Prop :=
  (∃ o, H a = some (.frz o (.lst xs))) ∨
    ∃ (o : Obj) (its : Array Value) (n : Nat), K.lookup a = some o ∧ o.cls = .type "list" ∧ o.dict = none ∧ o.data = .seq its n ∧ its.size ≤ sizeLine ∧ Vals xs its.toList
theorem FzL.sq {K : PySem.W.Frag} {H : Hp} {a : Addr} {xs : List V} (h : FzL K H a xs) : SqL K H a xs := by
  rcases h with ⟨o, h⟩ | h
  · exact .inl (.inr ⟨o, h⟩)
  · exact .inr h
/-- what a dict object says: its keys and values in order (flat keys) -/
def keyD : Key → D
  | .inl i => .int i
  | .inr x => .str x
mutual
inductive Rep (K : PySem.W.Frag) (H : Hp) : V → D → Prop
  | non : Rep K H .non .non
  | bl (b : Bool) : Rep K H (.bl b) (.bl b)
  | int (i : Int) : Rep K H (.int i) (.int i)
  | str (x : Str) : Rep K H (.str x) (.str x)
  | tup {a : Addr} {xs : List V} {ds : List D} : SqT K H a xs → RepAll K H xs ds → Rep K H (.ref a) (.tup ds)
  | lst {a : Addr} {xs : List V} {ds : List D} : FzL K H a xs → RepAll K H xs ds → Rep K H (.ref a) (.lst ds)
  | dct {a : Addr} {o : Obj} {kvs : List (Key × V)} {ds : List D} : H a = some (.frz o (.dK kvs)) → RepAll K H (kvs.map (·.2)) ds → Rep K H (.ref a) (.dct (kvs.map fun p => keyD p.1) ds)
  | adr (a : Addr) : Rep K H (.ref a) (.adr a)
  | ty (n : String) : Rep K H (.ty n) (.ty n)
inductive RepAll (K : PySem.W.Frag) (H : Hp) : List V → List D → Prop
  | nil : RepAll K H [] []
  | cons {v : V} {vs : List V} {d : D} {ds : List D} : Rep K H v d → RepAll K H vs ds → RepAll K H (v :: vs) (d :: ds)
end
/-- from H to H' only the objects at A may have changed, and what is permanent stands -/
def Step (A : Addr → Prop) (H H' : Hp) : Prop := ∀ b o, H b = some o → (Perm o ∨ ¬ A b) → H' b = some o
theorem Step.refl {A : Addr → Prop} {H : Hp} : Step A H H := fun _ _ h _ => h
theorem Step.mono {A B : Addr → Prop} {H H' : Hp} (s : Step A H H') (h : ∀ a, A a → B a) : Step B H H' := fun b o e q => s b o e (q.imp id fun n z => n (h b z))
theorem Step.of_same {A : Addr → Prop} {H H' : Hp} (s : Same H H') : Step A H H' := fun b o e _ => s b o e
theorem Step.new {A : Addr → Prop} {H : Hp} {p : Addr} {o : HO} (h : H p = none) : Step A H (upd H p o) := fun b u e _ => by
  rw [upd_ne (ne_of_none e h)]; exact e
section
variable {K : PySem.W.Frag} {A : Addr → Prop} {H H' : Hp}
theorem Step.tup {a : Addr} {xs : List V} (s : Step A H H') (h : SqT K H a xs) : SqT K H' a xs := by
  rcases h with (h | ⟨o, h⟩) | h
  · exact .inl (.inl (s _ _ h (.inl trivial)))
  · exact .inl (.inr ⟨o, s _ _ h (.inl trivial)⟩)
  · exact .inr h
theorem Step.fzl {a : Addr} {xs : List V} (s : Step A H H') (h : FzL K H a xs) : FzL K H' a xs := by
  rcases h with ⟨o, h⟩ | h
  · exact .inl ⟨o, s _ _ h (.inl trivial)⟩
  · exact .inr h
mutual
theorem Rep.step (s : Step A H H') : ∀ {v : V} {d : D}, Rep K H v d → Rep K H' v d
  | _, _, .non => .non
  | _, _, .bl b => .bl b
  | _, _, .int i => .int i
  | _, _, .str x => .str x
  | _, _, .tup h r => .tup (s.tup h) (RepAll.step s r)
  | _, _, .lst h r => .lst (s.fzl h) (RepAll.step s r)
  | _, _, .dct h r => .dct (s _ _ h (.inl trivial)) (RepAll.step s r)
  | _, _, .adr a => .adr a
  | _, _, .ty n => .ty n
theorem RepAll.step (s : Step A H H') : ∀ {vs : List V} {ds : List D}, RepAll K H vs ds → RepAll K H' vs ds
  | _, _, .nil => .nil
  | _, _, .cons h r => .cons (Rep.step s h) (RepAll.step s r)
end
theorem RepAll.length : ∀ {vs : List V} {ds : List D}, RepAll K H vs ds → vs.length = ds.length
  | _, _, .nil => rfl
  | _, _, .cons _ r => congrArg (· + 1) (RepAll.length r)
theorem RepAll.get : ∀ {vs : List V} {ds : List D} {i : Nat} {d : D}, RepAll K H vs ds → ds[i]? = some d → ∃ v, vs[i]? = some v ∧ Rep K H v d
  | _, _, _, _, .nil, e => by simp at e
  | _, _, 0, _, .cons h _, e => by simp at e; subst e; exact ⟨_, rfl, h⟩
  | _, _, i + 1, d, .cons _ r, e => by
    obtain ⟨v, h1, h2⟩ := RepAll.get (i := i) (d := d) r (by simpa using e)
    exact ⟨v, by simpa using h1, h2⟩
theorem RepAll.getV : ∀ {vs : List V} {ds : List D} {i : Nat} {v : V}, RepAll K H vs ds → vs[i]? = some v → ∃ d, ds[i]? = some d ∧ Rep K H v d
  | _, _, _, _, .nil, e => by simp at e
  | _, _, 0, _, .cons h _, e => by simp at e; subst e; exact ⟨_, rfl, h⟩
  | _, _, i + 1, v, .cons _ r, e => by
    obtain ⟨d, h1, h2⟩ := RepAll.getV (i := i) (v := v) r (by simpa using e)
    exact ⟨d, by simpa using h1, h2⟩
theorem RepAll.append : ∀ {vs ws : List V} {ds es : List D}, RepAll K H vs ds → RepAll K H ws es → RepAll K H (vs ++ ws) (ds ++ es)
  | _, _, _, _, .nil, s => s
  | _, _, _, _, .cons h r, s => .cons h (RepAll.append r s)
theorem RepAll.take : ∀ {vs : List V} {ds : List D} (n : Nat), RepAll K H vs ds → RepAll K H (vs.take n) (ds.take n)
  | _, _, 0, _ => .nil
  | _, _, _ + 1, .nil => .nil
  | _, _, n + 1, .cons h r => .cons h (RepAll.take n r)
theorem RepAll.drop : ∀ {vs : List V} {ds : List D} (n : Nat), RepAll K H vs ds → RepAll K H (vs.drop n) (ds.drop n)
  | _, _, 0, r => r
  | _, _, _ + 1, .nil => .nil
  | _, _, n + 1, .cons _ r => RepAll.drop n r
theorem RepAll.set {v : V} {d : D} (h : Rep K H v d) : ∀ {vs : List V} {ds : List D} (i : Nat), RepAll K H vs ds → RepAll K H (vs.set i v) (ds.set i d)
  | _, _, _, .nil => .nil
  | _, _, 0, .cons _ r => .cons h r
  | _, _, i + 1, .cons q r => .cons q (RepAll.set h i r)
end
/-! ### own objects -/
/-- the content of an object that may be changed -/
inductive Own where
  | lst (xs : List D) | dct (ks vs : List D)
  /-- an instance of the class at C: its attributes' names and values -/
  | ins (C : Addr) (ns : List Str) (ds : List D)
  /-- the table of code objects of a def, all of one name -/
  | tbl (q : Str)
/-- a slot of the frame: nothing that is known, a value, an object that only this name holds -/
inductive Slot where
  | emp | val (d : D) | own (o : Own)
def OwnAt (K : PySem.W.Frag) (H : Hp) (a : Addr) : Own → Prop
  | .lst ds => ∃ xs, H a = some (.lst xs) ∧ RepAll K H xs ds
  | .dct ks ds => ∃ kvs : List (Key × V), H a = some (.dK kvs) ∧ ks = kvs.map (fun p => keyD p.1) ∧ RepAll K H (kvs.map (·.2)) ds
  | .ins C ns ds => ∃ (dx : Addr) (fs : List (Str × V)), H a = some (.ins C dx fs) ∧ ns = fs.map (·.1) ∧ RepAll K H (fs.map (·.2)) ds
  | .tbl q => LamX.TabS H a q
/-- the state: the slots, and the shared own objects -/
structure Sta where
  ρ : List Slot
  W : Addr → Option Own
def SlotOk (K : PySem.W.Frag) (H : Hp) (x : Option (Option V)) : Slot → Prop
  | .emp => True
  | .val d => ∃ v, x = some (some v) ∧ Rep K H v d
  | .own o => ∃ a, x = some (some (.ref a)) ∧ OwnAt K H a o
/-- the slot i holds the own object at a -/
def OwnS (σ : St) (ρ : List Slot) (i : Nat) (a : Addr) : Prop := (∃ o, ρ[i]? = some (.own o)) ∧ σ[i]? = some (some (.ref a))
def RelW (K : PySem.W.Frag) (H : Hp) (W : Addr → Option Own) : Prop := ∀ a o, W a = some o → OwnAt K H a o
structure Rel (K : PySem.W.Frag) (H : Hp) (σ : St) (S : Sta) : Prop where
  len : σ.length = S.ρ.length
  slot : ∀ (i : Nat) s, S.ρ[i]? = some s → SlotOk K H σ[i]? s
  inj : ∀ (i j : Nat) a, OwnS σ S.ρ i a → OwnS σ S.ρ j a → i = j
  wor : RelW K H S.W
  dis : ∀ (i : Nat) a, OwnS σ S.ρ i a → S.W a = none
/-- what may change -/
def Oa (σ : St) (S : Sta) (a : Addr) : Prop := (∃ i, OwnS σ S.ρ i a) ∨ S.W a ≠ none
/-- how a part of the code goes from one state to the next -/
structure Nx (σ : St) (S : Sta) (H : Hp) (σ' : St) (S' : Sta) (H' : Hp) : Prop where
  st : Step (Oa σ S) H H'
  kn : ∀ b, H' b = none → H b = none
  oa : ∀ a, Oa σ' S' a → Oa σ S a ∨ H a = none
theorem Nx.refl {σ : St} {S : Sta} {H : Hp} : Nx σ S H σ S H := ⟨Step.refl, fun _ h => h, fun _ h => .inl h⟩
theorem OwnAt.at {K : PySem.W.Frag} {H : Hp} {a : Addr} {o : Own} (h : OwnAt K H a o) : ∃ u, H a = some u ∧ ¬ Perm u ∧ True := by
  cases o with
  | lst ds => obtain ⟨xs, h, _⟩ := h; exact ⟨_, h, fun z => z, trivial⟩
  | dct ks ds => obtain ⟨xs, h, _⟩ := h; exact ⟨_, h, fun z => z, trivial⟩
  | ins C ns ds => obtain ⟨dx, fs, h, _⟩ := h; exact ⟨_, h, fun z => z, trivial⟩
  | tbl q => obtain ⟨ps, h, _⟩ := h; exact ⟨_, h, fun z => z, trivial⟩
theorem OwnAt.step {K : PySem.W.Frag} {A : Addr → Prop} {H H' : Hp} {a : Addr} {o : Own} (s : Step A H H') (n : ¬ A a) (h : OwnAt K H a o) : OwnAt K H' a o := by
  cases o with
  | lst ds => obtain ⟨xs, h, r⟩ := h; exact ⟨xs, s _ _ h (.inr n), r.step s⟩
  | dct ks ds => obtain ⟨xs, h, e, r⟩ := h; exact ⟨xs, s _ _ h (.inr n), e, r.step s⟩
  | ins C ns ds => obtain ⟨dx, fs, h, e, r⟩ := h; exact ⟨dx, fs, s _ _ h (.inr n), e, r.step s⟩
  | tbl q =>
    obtain ⟨ps, h, t, f⟩ := h
    refine ⟨ps, s _ _ h (.inr n), t, fun pos cv hc => ?_⟩
    obtain ⟨c, e, hc2⟩ := f pos cv hc
    exact ⟨c, e, s _ _ hc2 (.inl trivial)⟩
section
variable {K : PySem.W.Frag} {A : Addr → Prop} {H H' H2 : Hp} {σ σ' σ2 : St} {S S' S2 : Sta}
theorem Rel.known (r : Rel K H σ S) {a : Addr} (h : Oa σ S a) : ∃ u, H a = some u ∧ ¬ Perm u ∧ True := by
  rcases h with ⟨i, ⟨o, e⟩, q⟩ | h
  · obtain ⟨b, e2, z⟩ := r.slot i _ e
    rw [q] at e2; cases e2
    exact z.at
  · cases e : S.W a with
    | none => exact absurd e h
    | some o => exact (r.wor a o e).at
/-- nothing of ours was touched -/
theorem Rel.step (r : Rel K H σ S) (s : Step A H H') (n : ∀ a, Oa σ S a → ¬ A a) : Rel K H' σ S where
  len := r.len
  slot := fun i s' e => by
    have q := r.slot i s' e
    cases s' with
    | emp => trivial
    | val d => obtain ⟨v, h1, h2⟩ := q; exact ⟨v, h1, h2.step s⟩
    | own o => obtain ⟨a, h1, h2⟩ := q; exact ⟨a, h1, h2.step s (n a (.inl ⟨i, ⟨o, e⟩, h1⟩))⟩
  inj := r.inj
  wor := fun a o e => (r.wor a o e).step s (n a (.inr (by rw [e]; exact fun z => nomatch z)))
  dis := r.dis
theorem Rel.same (r : Rel K H σ S) (s : Same H H') : Rel K H' σ S := r.step (A := fun _ => False) (Step.of_same s) fun _ _ z => z
theorem same_kn (s : Same H H') : ∀ b, H' b = none → H b = none := fun b h => by
  cases q : H b with
  | none => rfl
  | some o => rw [s b o q] at h; cases h
theorem Nx.same (s : Same H H') : Nx σ S H σ S H' := ⟨Step.of_same s, same_kn s, fun _ h => .inl h⟩
theorem Nx.trans (a : Nx σ S H σ' S' H') (b : Nx σ' S' H' σ2 S2 H2) : Nx σ S H σ2 S2 H2 where
  st := fun x o e q => by
    have e1 := a.st x o e q
    refine b.st x o e1 (q.imp id fun n z => ?_)
    rcases a.oa x z with z | z
    · exact n z
    · rw [e] at z; cases z
  kn := fun x h => a.kn x (b.kn x h)
  oa := fun x h => by
    rcases b.oa x h with h | h
    · exact a.oa x h
    · exact .inr (a.kn x h)
theorem same_new {p : Addr} {o : HO} (h : H p = none) : Same H (upd H p o) := fun b u e => by rw [upd_ne (ne_of_none e h)]; exact e
end
/-! ### freezing: a list, a dict that nobody will change -/
theorem Inv.freeze {X : Cx} {pins : List (Addr × Obj)} {σ : St} {H : Hp} {s : Shared} {a : Addr} {u : HO} (I : Inv X pins σ H s) (h : H a = some u) (m : (∃ xs, u = .lst xs) ∨ ∃ kvs, u = .dK kvs) :
    ∃ o, Inv X pins σ (upd H a (.frz o u)) s := by
  have np : ∀ xs, u ≠ .tup xs := fun xs e => by rcases m with ⟨_, rfl⟩ | ⟨_, rfl⟩ <;> cases e
  have no : ∀ x, u ≠ .own x := fun xs e => by rcases m with ⟨_, rfl⟩ | ⟨_, rfl⟩ <;> cases e
  have nf : ∀ o w, u ≠ .frz o w := fun _ _ e => by rcases m with ⟨_, rfl⟩ | ⟨_, rfl⟩ <;> cases e
  have nt : ∀ ps, u ≠ .tbl ps := fun xs e => by rcases m with ⟨_, rfl⟩ | ⟨_, rfl⟩ <;> cases e
  have ok := I.hok a u h
  obtain ⟨o, ho⟩ := objOk_get ok
  refine ⟨o, ?_⟩
  have ne : ∀ b w, H b = some w → w ≠ u → b ≠ a := fun b w e n z => by subst z; rw [h] at e; exact n (Option.some.inj e).symm
  have un : Un X.fs [] H (upd H a (.frz o u)) s.heap s.heap := by
    refine ⟨fun b o e _ _ _ => e, fun b o e _ _ _ => ⟨o.slots, e⟩, fun b o e n _ => ?_, fun b o e _ => ⟨o, e⟩, fun b xs e => ?_, fun b ob w e => ?_, fun b ps e => ⟨#[], ?_⟩⟩
    · rw [upd_ne (ne_of_none h n).symm]; exact n
    · rw [upd_ne (ne b _ e (np xs).symm)]; exact e
    · rw [upd_ne (ne b _ e (nf ob w).symm)]; exact e
    · rw [upd_ne (ne b _ e (nt ps).symm), e]; simp
  have hok : HOk X.prog X.w (upd H a (.frz o u)) s.heap := fun b w e => by
    by_cases hb : b = a
    · subst hb
      rw [upd_same] at e; cases e
      refine ⟨ho, ?_⟩
      rcases m with ⟨xs, rfl⟩ | ⟨kvs, rfl⟩
      · exact ok
      · exact ok
    · rw [upd_ne hb] at e
      exact (I.hok b w e).stay (fun _ _ _ z => z) (fun c z => by rw [upd_ne (ne c _ z (no b).symm)]; exact z) fun c xs z => by rw [upd_ne (ne c _ z (np xs).symm)]; exact z
  exact I.un (t' := s.toks) un hok
/-- behind a rule the new list is frozen -/
def frz (Q : VK) : VK := fun v H => Q v H ∨ ∃ a u, v = .ref a ∧ H a = some u ∧ ((∃ xs, u = .lst xs) ∨ ∃ kvs, u = .dK kvs) ∧ ∀ o, Q v (upd H a (.frz o u))
theorem ep_frz {X : Cx} {pins : List (Addr × Obj)} {σ : St} {Q : VK} {u : Value} {s : Shared} (h : EP X pins σ (frz Q) u s) : EP X pins σ Q u s := by
  obtain ⟨v, H', I, r, q | ⟨a, w, rfl, e, m, q⟩⟩ := h
  · exact ⟨v, H', I, r, q⟩
  · obtain ⟨o, J⟩ := Inv.freeze I e m
    exact ⟨_, _, J, r, q o⟩
def tFrz (t : TE) : TE := fun σ H Q => t σ H (frz Q)
theorem pe_frz {X : Cx} {e : Expr} {t : TE} (h : PE X e t) : PE X e (tFrz t) := ⟨fun pins s σ H Q I q => thn (h.run pins s σ H _ I q) fun _ _ z => ep_frz z⟩
theorem weakE {X : Cx} {e : Expr} {t t' : TE} (h : PE X e t) (w : ∀ σ H Q, t' σ H Q → t σ H Q) : PE X e t' := ⟨fun pins s σ H Q I q => h.run pins s σ H Q I (w _ _ _ q)⟩
theorem weakT {X : Cx} {e : Expr} {t t' : TT} (h : PT X e t) (w : ∀ σ H Q, t' σ H Q → t σ H Q) : PT X e t' := ⟨fun pins s σ H Q I q => h.run pins s σ H Q I (w _ _ _ q)⟩
theorem weakW {X : Cx} {e : Expr} {t t' : TT} (h : PW X e t) (w : ∀ σ H Q, t' σ H Q → t σ H Q) : PW X e t' := ⟨fun wh pins s σ H Q I q => h.run wh pins s σ H Q I (w _ _ _ q)⟩
theorem weakA {X : Cx} {e : List Expr} {t t' : TA} (h : PA X e t) (w : ∀ σ H Q, t' σ H Q → t σ H Q) : PA X e t' := ⟨fun p pins s σ H Q I q => h.run p pins s σ H Q I (w _ _ _ q)⟩
theorem weakS {X : Cx} {st : Stmt} {t t' : TS} (h : L2.PS X st t) (w : ∀ D σ H, t' D σ H → t D σ H) : L2.PS X st t' := ⟨fun pins s σ H D I q => h.run pins s σ H D I (w _ _ _ q)⟩
theorem weakSs {X : Cx} {st : List Stmt} {t t' : TS} (h : PSs X st t) (w : ∀ D σ H, t' D σ H → t D σ H) : PSs X st t' := ⟨fun pins s σ H D I q => h.run pins s σ H D I (w _ _ _ q)⟩
end Pl
set_option Elab.async false
set_option linter.all false
set_option maxRecDepth 100000
set_option maxHeartbeats 4000000
/-! Pl, part 2: the judgements of expressions, tests, arguments -/
namespace Pl
open PySem PySem.Spec L2
/-- an exception: its class, what its attribute 'line' holds -/
structure Exn where
  cls : Value
  line : Option D
def XR (K : PySem.W.Frag) (H : Hp) (x : Exn) (cls : Value) (d : Option Addr) : Prop :=
  x.cls = cls ∧ match x.line with
    | none => d = none
    | some y => ∃ a v, d = some a ∧ H a = some (.xd [("line", v)]) ∧ Rep K H v y
abbrev PQ := D → Sta → Prop
abbrev PX := Exn → Sta → Prop
abbrev PTE := Sta → PQ → PX → Prop
abbrev PTT := Sta → (Bool → Sta → Prop) → PX → Prop
abbrev PTA := Sta → (List D → Sta → Prop) → PX → Prop
def Up (K : PySem.W.Frag) (σ : St) (S : Sta) (H : Hp) (Q : VK) (Q' : PQ) : Prop := ∀ v d H' S', Nx σ S H σ S' H' → Rel K H' σ S' → Rep K H' v d → Q' d S' → Q v H'
def UpT (K : PySem.W.Frag) (σ : St) (S : Sta) (H : Hp) (Q : Bool → Hp → Prop) (Q' : Bool → Sta → Prop) : Prop := ∀ b H' S', Nx σ S H σ S' H' → Rel K H' σ S' → Q' b S' → Q b H'
def UpA (K : PySem.W.Frag) (σ : St) (S : Sta) (H : Hp) (Q : List V → Hp → Prop) (Q' : List D → Sta → Prop) : Prop := ∀ vs ds H' S', Nx σ S H σ S' H' → Rel K H' σ S' → RepAll K H' vs ds → Q' ds S' → Q vs H'
def UpX (K : PySem.W.Frag) (σ : St) (S : Sta) (H : Hp) (W : WX) (E : PX) : Prop := ∀ x cls dd H' S', Nx σ S H σ S' H' → Rel K H' σ S' → XR K H' x cls dd → E x S' → W cls dd σ H'
section
variable {K : PySem.W.Frag} {σ : St} {S S1 : Sta} {H H1 : Hp}
theorem UpX.thn {W : WX} {E : PX} (u : UpX K σ S H W E) (n : Nx σ S H σ S1 H1) : UpX K σ S1 H1 W E := fun x c d H' S' n' r e q => u x c d H' S' (n.trans n') r e q
end
def lE (X : Cx) (W : WX) (t : PTE) : TE := fun σ H Q => ∃ S Q' E', Rel X.K H σ S ∧ t S Q' E' ∧ Up X.K σ S H Q Q' ∧ UpX X.K σ S H W E'
def lT (X : Cx) (W : WX) (t : PTT) : TT := fun σ H Q => ∃ S Q' E', Rel X.K H σ S ∧ t S Q' E' ∧ UpT X.K σ S H Q Q' ∧ UpX X.K σ S H W E'
def lA (X : Cx) (W : WX) (t : PTA) : TA := fun σ H Q => ∃ S Q' E', Rel X.K H σ S ∧ t S Q' E' ∧ UpA X.K σ S H Q Q' ∧ UpX X.K σ S H W E'
/-- the judgements -/
def PM (X : Cx) (e : Expr) (t : PTE) : Prop := ∀ W, Takes X W → PE X e (lE X W t)
def PMT (X : Cx) (e : Expr) (t : PTT) : Prop := ∀ W, Takes X W → PT X e (lT X W t)
def PMW (X : Cx) (e : Expr) (t : PTT) : Prop := ∀ W, Takes X W → PW X e (lT X W t)
def PMA (X : Cx) (es : List Expr) (t : PTA) : Prop := ∀ W, Takes X W → PA X es (lA X W t)
section
variable {X : Cx}
/-! ### constants, names -/
def pC (d : D) : PTE := fun S Q _ => Q d S
theorem pm_c {e : Expr} {v : V} {d : D} (h : PE X e (tC v)) (r : ∀ H, Rep X.K H v d) : PM X e (pC d) := fun W _ => weakE h fun σ H Q => by
  rintro ⟨S, Q', E', rel, q, up, _⟩
  exact up _ _ _ _ .refl rel (r H) q
theorem pm_int {i j pos} : PM X (.Constant (.int i) j pos) (pC (.int i)) := pm_c pe_int fun _ => .int i
theorem pm_bl {b j pos} : PM X (.Constant (.bool b) j pos) (pC (.bl b)) := pm_c pe_bl fun _ => .bl b
theorem pm_non {j pos} : PM X (.Constant .none j pos) (pC .non) := pm_c pe_non fun _ => .non
theorem pm_str {x j pos} : PM X (.Constant (.str x) j pos) (pC (.str x)) := pm_c pe_str fun _ => .str x
/-- a module's name: what it holds does not hang on the heap -/
theorem pm_glob {x : Str} {v : V} {u : Value} {d : D} {pos : Pos} (hg : Gl X x) (hm : X.mg x = some u) (r : RelV v u) (rd : ∀ H, Rep X.K H v d) (hd : (x == ("__debug__" : Str)) = false := by decide) : PM X (.Name x pos) (pC d) := pm_c (pe_glob hg hm r hd) rd
def pVar (i : Nat) : PTE := fun S Q _ => match S.ρ[i]? with
  | some (.val d) => Q d S
  | some (.own (.lst xs)) => Q (.lst xs) ⟨S.ρ.set i (.val (.lst xs)), S.W⟩
  | some (.own (.dct ks vs)) => Q (.dct ks vs) ⟨S.ρ.set i (.val (.dct ks vs)), S.W⟩
  | _ => False
/-- an own object at a slot is frozen -/
theorem Rel.frozen {K : PySem.W.Frag} {H : Hp} {σ : St} {S : Sta} {i : Nat} {a : Addr} {o : Own} {d : D} {u : HO} {ob : Obj} (r : Rel K H σ S) (e : S.ρ[i]? = some (.own o)) (ea : σ[i]? = some (some (.ref a))) (hu : H a = some u)
    (rep : Rep K (upd H a (.frz ob u)) (.ref a) d) :
    Nx σ S H σ ⟨S.ρ.set i (.val d), S.W⟩ (upd H a (.frz ob u)) ∧ Rel K (upd H a (.frz ob u)) σ ⟨S.ρ.set i (.val d), S.W⟩ := by
  have oi : OwnS σ S.ρ i a := ⟨⟨o, e⟩, ea⟩
  have st : ∀ {A : Addr → Prop}, A a → Step A H (upd H a (.frz ob u)) := fun {A} ha b w eb q => by
    by_cases hb : b = a
    · subst hb
      rcases q with q | q
      · obtain ⟨u', e', np, _⟩ := r.known (.inl ⟨i, oi⟩)
        rw [eb] at e'; cases e'; exact absurd q np
      · exact absurd ha q
    · rw [upd_ne hb]; exact eb
  have back : ∀ j b, OwnS σ (S.ρ.set i (.val d)) j b → j ≠ i ∧ OwnS σ S.ρ j b := fun j b h => by
    obtain ⟨⟨o', h1⟩, h2⟩ := h
    by_cases hj : j = i
    · subst hj
      by_cases hl : j < S.ρ.length
      · rw [List.getElem?_set_self hl] at h1; cases h1
      · rw [List.getElem?_eq_none (by simpa using hl)] at h1; cases h1
    · rw [List.getElem?_set_ne (Ne.symm hj)] at h1
      exact ⟨hj, ⟨o', h1⟩, h2⟩
  have sa := st (A := fun x => x = a) rfl
  refine ⟨⟨st (.inl ⟨i, oi⟩), fun b h => ?_, fun x h => ?_⟩, ?_⟩
  · by_cases hb : b = a
    · subst hb; rw [upd_same] at h; cases h
    · rw [upd_ne hb] at h; exact h
  · rcases h with ⟨j, h⟩ | h
    · exact .inl (.inl ⟨j, (back j x h).2⟩)
    · exact .inl (.inr h)
  · refine ⟨by simpa using r.len, fun j s es => ?_, fun j k b h1 h2 => r.inj j k b (back _ _ h1).2 (back _ _ h2).2, fun b o' h => ?_, fun j b h => r.dis j b (back _ _ h).2⟩
    · by_cases hj : j = i
      · subst hj
        have hl : j < S.ρ.length := (List.getElem?_eq_some_iff.mp e).1
        have es' : (S.ρ.set j (.val d))[j]? = some s := es
        rw [List.getElem?_set_self hl] at es'
        cases es'
        exact ⟨_, ea, rep⟩
      · have es' : (S.ρ.set i (.val d))[j]? = some s := es
        rw [List.getElem?_set_ne (Ne.symm hj)] at es'
        have q := r.slot j s es'
        cases s with
        | emp => trivial
        | val d' => obtain ⟨v, h1, h2⟩ := q; exact ⟨v, h1, h2.step sa⟩
        | own o' =>
          obtain ⟨b, h1, h2⟩ := q
          exact ⟨b, h1, h2.step sa fun z => hj (r.inj j i b ⟨⟨o', es'⟩, h1⟩ (z ▸ oi))⟩
    · refine (r.wor b o' h).step sa fun z => ?_
      have z' : b = a := z
      subst z'
      have q : S.W b = none := r.dis i b oi
      rw [show S.W b = some o' from h] at q; cases q
theorem pm_var {i : Nat} {e : Expr} (h : PE X e (tVar i)) : PM X e (pVar i) := fun W _ => weakE (pe_frz h) fun σ H Q => by
  rintro ⟨S, Q', E', rel, q, up, _⟩
  unfold pVar at q
  split at q
  · rename_i d es
    obtain ⟨v, h1, h2⟩ := rel.slot i _ es
    exact ⟨v, h1, .inl (up _ _ _ _ .refl rel h2 q)⟩
  · rename_i xs es
    obtain ⟨a, h1, ys, h2, h3⟩ := rel.slot i _ es
    refine ⟨.ref a, h1, .inr ⟨a, _, rfl, h2, .inl ⟨_, rfl⟩, fun o => ?_⟩⟩
    have rp : Rep X.K (upd H a (.frz o (.lst ys))) (.ref a) (.lst xs) := .lst (.inl ⟨o, upd_same⟩) (h3.step (A := fun x => x = a) fun b w eb q => by
      by_cases hb : b = a
      · subst hb
        rw [h2] at eb; cases eb
        rcases q with q | q
        · exact q.elim
        · exact absurd rfl q
      · rw [upd_ne hb]; exact eb)
    obtain ⟨nx, r'⟩ := rel.frozen es h1 h2 rp
    exact up _ _ _ _ nx r' rp q
  · rename_i ks ds es
    obtain ⟨a, h1, kvs, h2, ek, h3⟩ := rel.slot i _ es
    refine ⟨.ref a, h1, .inr ⟨a, _, rfl, h2, .inr ⟨_, rfl⟩, fun o => ?_⟩⟩
    have rp : Rep X.K (upd H a (.frz o (.dK kvs))) (.ref a) (.dct ks ds) := ek ▸ .dct (o := o) upd_same (h3.step (A := fun x => x = a) fun b w eb q => by
      by_cases hb : b = a
      · subst hb
        rw [h2] at eb; cases eb
        rcases q with q | q
        · exact q.elim
        · exact absurd rfl q
      · rw [upd_ne hb]; exact eb)
    obtain ⟨nx, r'⟩ := rel.frozen es h1 h2 rp
    exact up _ _ _ _ nx r' rp q
  · exact q.elim
/-! ### operators by values -/
abbrev Op2 := D → D → (D → Prop) → Prop
abbrev OpN := List D → (D → Prop) → Prop
/-- the end of an operation: what came is represented, all that stood stands -/
def Fin (K : PySem.W.Frag) (H : Hp) (Q : VK) (Q' : D → Prop) : Prop := ∀ z c H', Same H H' → Rep K H' z c → Q' c → Q z H'
def OpD (X : Cx) (f : Value → Value → Sem Value) (o : Op2) : Prop := ∃ r, OpR X f r ∧ ∀ (H : Hp) (x y : V) (d e : D) (Q : VK) (Q' : D → Prop), Rep X.K H x d → Rep X.K H y e → o d e Q' → Fin X.K H Q Q' → r x y H Q
def UnD (X : Cx) (f : Value → Sem Value) (o : D → (D → Prop) → Prop) : Prop := ∃ r, UnR X f r ∧ ∀ (H : Hp) (x : V) (d : D) (Q : VK) (Q' : D → Prop), Rep X.K H x d → o d Q' → Fin X.K H Q Q' → r x H Q
def CallD (X : Cx) (f : Value) (o : OpN) : Prop := ∃ r, CallR X f r ∧ ∀ (H : Hp) (xs : List V) (ds : List D) (Q : VK) (Q' : D → Prop), RepAll X.K H xs ds → o ds Q' → Fin X.K H Q Q' → r xs H Q
def MtD (X : Cx) (id : String) (o : D → OpN) : Prop := ∃ r, MtR X id r ∧ ∀ (H : Hp) (x : V) (d : D) (xs : List V) (ds : List D) (Q : VK) (Q' : D → Prop), Rep X.K H x d → RepAll X.K H xs ds → o d ds Q' → Fin X.K H Q Q' → r x xs H Q
def IxD (X : Cx) (o : Op2) : Prop := ∃ r, IxR X r ∧ ∀ (H : Hp) (x y : V) (d e : D) (Q : VK) (Q' : D → Prop), Rep X.K H x d → Rep X.K H y e → o d e Q' → Fin X.K H Q Q' → r x y H Q
def pOp (o : Op2) (ta tb : PTE) : PTE := fun S Q E => ta S (fun x S1 => tb S1 (fun y S2 => o x y fun z => Q z S2) E) E
def pUn (o : D → (D → Prop) → Prop) (ta : PTE) : PTE := fun S Q E => ta S (fun x S1 => o x fun z => Q z S1) E
theorem Up.fin {K : PySem.W.Frag} {σ : St} {S S1 : Sta} {H H1 : Hp} {Q : VK} {Q' : PQ} (u : Up K σ S H Q Q') (n : Nx σ S H σ S1 H1) (r : Rel K H1 σ S1) : Fin K H1 Q (fun z => Q' z S1) := fun z c H' s rp q => u z c H' S1 (n.trans (.same s)) (r.same s) rp q
theorem Rep.nx {K : PySem.W.Frag} {σ : St} {S S1 : Sta} {H H1 : Hp} {σ' : St} {v : V} {d : D} (n : Nx σ S H σ' S1 H1) (h : Rep K H v d) : Rep K H1 v d := h.step n.st
theorem RepAll.nx {K : PySem.W.Frag} {σ : St} {S S1 : Sta} {H H1 : Hp} {σ' : St} {v : List V} {d : List D} (n : Nx σ S H σ' S1 H1) (h : RepAll K H v d) : RepAll K H1 v d := h.step n.st
variable {a b : Expr} {ta tb : PTE} {pos : Pos} {o : Op2}
theorem two {W : WX} {r : R2} (hl : ∀ (H : Hp) (x y : V) (d e : D) (Q : VK) (Q' : D → Prop), Rep X.K H x d → Rep X.K H y e → o d e Q' → Fin X.K H Q Q' → r x y H Q) : ∀ σ H Q, lE X W (pOp o ta tb) σ H Q → tOp r (lE X W ta) (lE X W tb) σ H Q := by
  rintro σ H Q ⟨S, Q', E', rel, q, up, ux⟩
  refine ⟨S, _, E', rel, q, fun v d H1 S1 n1 r1 p1 q1 => ?_, ux⟩
  refine ⟨S1, _, E', r1, q1, fun w e H2 S2 n2 r2 p2 q2 => ?_, ux.thn n1⟩
  exact hl H2 v w d e Q _ (p1.nx n2) p2 q2 (up.fin (n1.trans n2) r2)
theorem pm_op {op : Operator} (ho : OpD X (binaryOp op) o) (ha : PM X a ta) (hb : PM X b tb) : PM X (.BinOp a op b pos) (pOp o ta tb) := fun W tk => by
  obtain ⟨r, hr, hl⟩ := ho
  exact weakE (pe_op hr (ha W tk) (hb W tk)) (two hl)
theorem pm_un {op : UnaryOp} {o : D → (D → Prop) → Prop} (ho : UnD X (unaryOp op) o) (ha : PM X a ta) : PM X (.UnaryOp op a pos) (pUn o ta) := fun W tk => by
  obtain ⟨r, hr, hl⟩ := ho
  refine weakE (pe_un hr (ha W tk)) ?_
  rintro σ H Q ⟨S, Q', E', rel, q, up, ux⟩
  exact ⟨S, _, E', rel, q, fun v d H1 S1 n1 r1 p1 q1 => hl H1 v d Q _ p1 q1 (up.fin n1 r1), ux⟩
/-- a comparison as a value -/
theorem pm_cmp {op : CmpOp} (ho : OpD X (compareOp op) o) (ha : PM X a ta) (hb : PM X b tb) (h1 : behindInMarks op b = false) : PM X (.Compare a [op] [b] pos) (pOp o ta tb) := fun W tk => by
  obtain ⟨r, hr, hl⟩ := ho
  exact weakE (pe_cmpR hr (ha W tk) (hb W tk) h1) (two hl)
/-- x[i] -/
theorem pm_ix (ho : IxD X o) (ha : PM X a ta) (hb : PM X b tb) (hpi : PlainIx b) : PM X (.Subscript a b pos) (pOp o ta tb) := fun W tk => by
  obtain ⟨r, hr, hl⟩ := ho
  exact weakE (pe_ix hr (ha W tk) (hb W tk) hpi) (two hl)
/-- x[lo:hi] -/
def POX (X : Cx) (lo : Option Expr) (t : Option PTE) : Prop := (lo = none ∧ t = none) ∨ ∃ e te, lo = some e ∧ t = some te ∧ PM X e te
def pPart : Option PTE → Sta → (Option Int → Sta → Prop) → PX → Prop
  | none => fun S Q _ => Q none S
  | some t => fun S Q E => t S (fun d S1 => ∃ i, d = .int i ∧ Q (some i) S1) E
def lO (X : Cx) (W : WX) (t : Option PTE) : TO := fun σ H Q => ∃ S Q' E', Rel X.K H σ S ∧ pPart t S Q' E' ∧ (∀ b H' S', Nx σ S H σ S' H' → Rel X.K H' σ S' → Q' b S' → Q b H') ∧ UpX X.K σ S H W E'
theorem po_of {lo : Option Expr} {t : Option PTE} {W : WX} (tk : Takes X W) (h : POX X lo t) : PO X lo (lO X W t) := by
  rcases h with ⟨rfl, rfl⟩ | ⟨e, te, rfl, rfl, he⟩
  · refine ⟨fun pins s σ H Q I q => po_none.run pins s σ H Q I ?_⟩
    obtain ⟨S, Q', E', rel, q, up, ux⟩ := q
    exact up _ _ _ .refl rel q
  · refine ⟨fun pins s σ H Q I q => (po_some (he W tk)).run pins s σ H Q I ?_⟩
    obtain ⟨S, Q', E', rel, q, up, ux⟩ := q
    refine ⟨S, _, E', rel, q, fun v d H1 S1 n1 r1 p1 q1 => ?_, ux⟩
    obtain ⟨i, rfl, q1⟩ := q1
    cases p1
    exact ⟨i, rfl, up _ _ _ n1 r1 q1⟩
def SlD (X : Cx) (o : D → Option Int → Option Int → (D → Prop) → Prop) : Prop := ∃ r, SlR X r ∧ ∀ (H : Hp) (x : V) (d : D) (lo hi : Option Int) (Q : VK) (Q' : D → Prop), Rep X.K H x d → o d lo hi Q' → Fin X.K H Q Q' → r x lo hi H Q
def pSl (o : D → Option Int → Option Int → (D → Prop) → Prop) (ta : PTE) (tl th : Option PTE) : PTE := fun S Q E => ta S (fun x S1 => pPart tl S1 (fun lo S2 => pPart th S2 (fun hi S3 => o x lo hi fun z => Q z S3) E) E) E
theorem pm_slice {o : D → Option Int → Option Int → (D → Prop) → Prop} {lo hi : Option Expr} {tl th : Option PTE} {p2 : Pos} (hr : SlD X o) (he : PM X a ta) (hl : POX X lo tl) (hu : POX X hi th) : PM X (.Subscript a (.Slice lo hi none p2) pos) (pSl o ta tl th) := fun W tk => by
  obtain ⟨r, hr, hf⟩ := hr
  refine weakE (pe_slice hr (he W tk) (po_of tk hl) (po_of tk hu)) ?_
  rintro σ H Q ⟨S, Q', E', rel, q, up, ux⟩
  refine ⟨S, _, E', rel, q, fun v d H1 S1 n1 r1 p1 q1 => ?_, ux⟩
  refine ⟨S1, _, E', r1, q1, fun l H2 S2 n2 r2 q2 => ?_, ux.thn n1⟩
  refine ⟨S2, _, E', r2, q2, fun u H3 S3 n3 r3 q3 => ?_, ux.thn (n1.trans n2)⟩
  exact hf H3 v d l u Q _ ((p1.nx n2).nx n3) q3 (up.fin ((n1.trans n2).trans n3) r3)
/-! ### argument lists, displays, calls of built-ins -/
def pNil : PTA := fun S Q _ => Q [] S
def pCons (t : PTE) (u : PTA) : PTA := fun S Q E => t S (fun x S1 => u S1 (fun xs S2 => Q (x :: xs) S2) E) E
variable {e : Expr} {es : List Expr} {te : PTE} {t : PTA}
theorem pma_nil : PMA X [] pNil := fun W _ => weakA pa_nil fun σ H Q => by
  rintro ⟨S, Q', E', rel, q, up, _⟩
  exact up _ _ _ _ .refl rel .nil q
theorem pma_cons (ha : PM X e te) (hr : PMA X es t) (hs : starEach (e :: es) X.env = (false, eval e X.env) :: starEach es X.env := by rfl) : PMA X (e :: es) (pCons te t) := fun W tk => weakA (pa_cons (ha W tk) (hr W tk) hs) fun σ H Q => by
  rintro ⟨S, Q', E', rel, q, up, ux⟩
  refine ⟨S, _, E', rel, q, fun v d H1 S1 n1 r1 p1 q1 => ?_, ux⟩
  refine ⟨S1, _, E', r1, q1, fun vs ds H2 S2 n2 r2 p2 q2 => ?_, ux.thn n1⟩
  exact up _ _ _ _ (n1.trans n2) r2 (.cons (p1.nx n2) p2) q2
def pTup (t : PTA) : PTE := fun S Q E => t S (fun ds S1 => ds.length ≤ sizeLine ∧ Q (.tup ds) S1) E
def pLst (t : PTA) : PTE := fun S Q E => t S (fun ds S1 => ds.length ≤ sizeLine ∧ Q (.lst ds) S1) E
theorem pm_tup {k : Nat} (h : PMA X es t) : PM X (.Tuple es k pos) (pTup t) := fun W tk => weakE (pe_tup (h W tk)) fun σ H Q => by
  rintro ⟨S, Q', E', rel, q, up, ux⟩
  refine ⟨S, _, E', rel, q, fun vs ds H1 S1 n1 r1 p1 q1 => ⟨by rw [p1.length]; exact q1.1, fun p hp => ?_⟩, ux⟩
  have s : Same H1 (upd H1 p (.tup vs)) := same_new hp
  exact up _ _ _ _ (n1.trans (.same s)) (r1.same s) (.tup (.of upd_same) (p1.step (A := fun _ => False) (Step.of_same s))) q1.2
theorem same_frz {H : Hp} {p : Addr} {u w : HO} (hp : H p = none) : Same H (upd (upd H p u) p w) := by rw [upd_upd]; exact same_new hp
theorem pm_lst (h : PMA X es t) : PM X (.List es pos) (pLst t) := fun W tk => weakE (pe_frz (pe_lst (h W tk))) fun σ H Q => by
  rintro ⟨S, Q', E', rel, q, up, ux⟩
  refine ⟨S, _, E', rel, q, fun vs ds H1 S1 n1 r1 p1 q1 => ⟨by rw [p1.length]; exact q1.1, fun p hp => ?_⟩, ux⟩
  refine .inr ⟨p, _, rfl, upd_same, .inl ⟨_, rfl⟩, fun o => ?_⟩
  have s : Same H1 (upd (upd H1 p (.lst vs)) p (.frz o (.lst vs))) := same_frz hp
  exact up _ _ _ _ (n1.trans (.same s)) (r1.same s) (.lst (.inl ⟨o, upd_same⟩) (p1.step (A := fun _ => False) (Step.of_same s))) q1.2
/-- a built-in called with values -/
def pCallB (o : OpN) (t : PTA) : PTE := fun S Q E => t S (fun ds S1 => o ds fun z => Q z S1) E
theorem callB {o : OpN} {W : WX} {r : List V → Hp → VK → Prop} (hl : ∀ (H : Hp) (xs : List V) (ds : List D) (Q : VK) (Q' : D → Prop), RepAll X.K H xs ds → o ds Q' → Fin X.K H Q Q' → r xs H Q) : ∀ σ H Q, lE X W (pCallB o t) σ H Q → tCB r (lA X W t) σ H Q := by
  rintro σ H Q ⟨S, Q', E', rel, q, up, ux⟩
  exact ⟨S, _, E', rel, q, fun v d H1 S1 n1 r1 p1 q1 => hl H1 v d Q _ p1 q1 (up.fin n1 r1), ux⟩
theorem pm_callB {o : OpN} {x id : String} {p : Pos} (hc : CallD X (.builtin id) o) (hg : Gl X x) (hm : X.mg x = none) (hv : bootBuiltins x = some (.builtin id)) (ha : PMA X (e :: es) t) (hn : (x : Str) ≠ "__name__" := by decide) (hdb : ((x : Str) == ("__debug__" : Str)) = false := by decide)
    (he : starEach (e :: es) X.env = (false, eval e X.env) :: starEach es X.env := by rfl) (hpl : (backTo pos (starEach es X.env)).any (·.1) = false := by rfl) : PM X (.Call (.Name x p) (e :: es) [] pos) (pCallB o t) := fun W tk => by
  obtain ⟨r, hr, hl⟩ := hc
  exact weakE (pe_callB hr hg hm hv (ha W tk) hn hdb he hpl) (callB hl)
theorem pm_callTy {o : OpN} {x T : String} {p : Pos} (hc : CallD X (.type T) o) (hg : Gl X x) (hm : X.mg x = none) (hv : bootBuiltins x = some (.type T)) (ha : PMA X (e :: es) t) (hn : (x : Str) ≠ "__name__" := by decide) (hdb : ((x : Str) == ("__debug__" : Str)) = false := by decide)
    (he : starEach (e :: es) X.env = (false, eval e X.env) :: starEach es X.env := by rfl) (hpl : (backTo pos (starEach es X.env)).any (·.1) = false := by rfl) : PM X (.Call (.Name x p) (e :: es) [] pos) (pCallB o t) := fun W tk => by
  obtain ⟨r, hr, hl⟩ := hc
  exact weakE (pe_callTy hr hg hm hv (ha W tk) hn hdb he hpl) (callB hl)
/-! ### tests -/
variable {tA tB : PTT} {rest : List Expr}
/-- the truth of data -/
def tru : D → Option Bool
  | .bl b => some b
  | .non => some false
  | .int i => some (i != 0)
  | .str x => if x.length ≤ sizeLine then some (x.length != 0) else none
  | .tup xs => some (!xs.isEmpty)
  | .lst xs => some (!xs.isEmpty)
  | _ => none
def pTest (t : PTE) : PTT := fun S Q E => t S (fun d S1 => ∃ b, d = .bl b ∧ Q b S1) E
theorem pmt_val (h : PM X e te) (he : ∀ whole, isTrue e X.env whole = (do let v ← whole; standAt e.pos; holding [v] (truthy v)) := by intro _; rfl) : PMT X e (pTest te) := fun W tk => weakT (pt_val (h W tk) he) fun σ H Q => by
  rintro ⟨S, Q', E', rel, q, up, ux⟩
  refine ⟨S, _, E', rel, q, fun v d H1 S1 n1 r1 p1 q1 => ?_, ux⟩
  obtain ⟨b, rfl, q1⟩ := q1
  cases p1
  exact ⟨b, rfl, up _ _ _ n1 r1 q1⟩
theorem pmt_cmp {op : CmpOp} (ho : OpD X (compareOp op) o) (ha : PM X a ta) (hb : PM X b tb) (h1 : behindInMarks op b = false) : PMT X (.Compare a [op] [b] pos) (pTest (pOp o ta tb)) := fun W tk => by
  obtain ⟨r, hr, hl⟩ := ho
  refine weakT (pt_cmpR hr (ha W tk) (hb W tk) h1) ?_
  rintro σ H Q ⟨S, Q', E', rel, q, up, ux⟩
  refine two (W := W) hl σ H _ ⟨S, _, E', rel, q, fun v d H1 S1 n1 r1 p1 q1 => ?_, ux⟩
  obtain ⟨b, rfl, q1⟩ := q1
  cases p1
  exact ⟨b, rfl, up _ _ _ n1 r1 q1⟩
def pNot (t : PTT) : PTT := fun S Q E => t S (fun b S1 => Q (!b) S1) E
theorem pmt_not (h : PMT X a tA) : PMT X (.UnaryOp .Not a pos) (pNot tA) := fun W tk => weakT (pt_not (h W tk)) fun σ H Q => by
  rintro ⟨S, Q', E', rel, q, up, ux⟩
  exact ⟨S, _, E', rel, q, fun b H1 S1 n1 r1 q1 => up _ _ _ n1 r1 q1, ux⟩
def pAnd (t u : PTT) : PTT := fun S Q E => t S (fun b S1 => if b = true then u S1 Q E else Q false S1) E
def pOr (t u : PTT) : PTT := fun S Q E => t S (fun b S1 => if b = true then Q true S1 else u S1 Q E) E
theorem pmw_and1 (h : PMT X a tA) : PMW X (.BoolOp .And [a] pos) tA := fun W tk => pw_and1 (h W tk)
theorem pmw_or1 (h : PMT X a tA) : PMW X (.BoolOp .Or [a] pos) tA := fun W tk => pw_or1 (h W tk)
theorem pmw_and (ha : PMT X a tA) (hb : PMW X (.BoolOp .And (b :: rest) pos) tB) : PMW X (.BoolOp .And (a :: b :: rest) pos) (pAnd tA tB) := fun W tk => weakW (pw_and (ha W tk) (hb W tk)) fun σ H Q => by
  rintro ⟨S, Q', E', rel, q, up, ux⟩
  refine ⟨S, _, E', rel, q, fun c H1 S1 n1 r1 q1 => ?_, ux⟩
  cases c with
  | true => exact ⟨S1, _, E', r1, q1, fun d H2 S2 n2 r2 q2 => up _ _ _ (n1.trans n2) r2 q2, ux.thn n1⟩
  | false => exact up _ _ _ n1 r1 q1
theorem pmw_or (ha : PMT X a tA) (hb : PMW X (.BoolOp .Or (b :: rest) pos) tB) : PMW X (.BoolOp .Or (a :: b :: rest) pos) (pOr tA tB) := fun W tk => weakW (pw_or (ha W tk) (hb W tk)) fun σ H Q => by
  rintro ⟨S, Q', E', rel, q, up, ux⟩
  refine ⟨S, _, E', rel, q, fun c H1 S1 n1 r1 q1 => ?_, ux⟩
  cases c with
  | true => exact up _ _ _ n1 r1 q1
  | false => exact ⟨S1, _, E', r1, q1, fun d H2 S2 n2 r2 q2 => up _ _ _ (n1.trans n2) r2 q2, ux.thn n1⟩
theorem pmt_w (h : PMW X a tA) : PMT X a tA := fun W tk => (h W tk).pt
/-- and, or, not as values -/
def pAndV (ta tb : PTE) : PTE := fun S Q E => ta S (fun x S1 => ∃ c, x = .bl c ∧ if c = true then tb S1 Q E else Q (.bl false) S1) E
def pOrV (ta tb : PTE) : PTE := fun S Q E => ta S (fun x S1 => ∃ c, x = .bl c ∧ if c = true then Q (.bl true) S1 else tb S1 Q E) E
def pNotV (ta : PTE) : PTE := fun S Q E => ta S (fun x S1 => ∃ c, x = .bl c ∧ Q (.bl (!c)) S1) E
theorem pm_one {op} {t : PTE} (h : PM X a t) : PM X (.BoolOp op [a] pos) t := fun W tk => pe_one (h W tk)
theorem pm_and (ha : PM X a ta) (hb : PM X (.BoolOp .And (b :: rest) pos) tb) : PM X (.BoolOp .And (a :: b :: rest) pos) (pAndV ta tb) := fun W tk => weakE (pe_and (ha W tk) (hb W tk)) fun σ H Q => by
  rintro ⟨S, Q', E', rel, q, up, ux⟩
  refine ⟨S, _, E', rel, q, fun v d H1 S1 n1 r1 p1 q1 => ?_, ux⟩
  obtain ⟨c, rfl, q1⟩ := q1
  cases p1
  refine ⟨c, rfl, ?_⟩
  cases c with
  | true => exact ⟨S1, _, E', r1, q1, fun v d H2 S2 n2 r2 p2 q2 => up _ _ _ _ (n1.trans n2) r2 p2 q2, ux.thn n1⟩
  | false => exact up _ _ _ _ n1 r1 (.bl _) q1
theorem pm_or (ha : PM X a ta) (hb : PM X (.BoolOp .Or (b :: rest) pos) tb) : PM X (.BoolOp .Or (a :: b :: rest) pos) (pOrV ta tb) := fun W tk => weakE (pe_or (ha W tk) (hb W tk)) fun σ H Q => by
  rintro ⟨S, Q', E', rel, q, up, ux⟩
  refine ⟨S, _, E', rel, q, fun v d H1 S1 n1 r1 p1 q1 => ?_, ux⟩
  obtain ⟨c, rfl, q1⟩ := q1
  cases p1
  refine ⟨c, rfl, ?_⟩
  cases c with
  | true => exact up _ _ _ _ n1 r1 (.bl _) q1
  | false => exact ⟨S1, _, E', r1, q1, fun v d H2 S2 n2 r2 p2 q2 => up _ _ _ _ (n1.trans n2) r2 p2 q2, ux.thn n1⟩
theorem pm_not (ha : PM X a ta) : PM X (.UnaryOp .Not a pos) (pNotV ta) := fun W tk => weakE (pe_not (ha W tk)) fun σ H Q => by
  rintro ⟨S, Q', E', rel, q, up, ux⟩
  refine ⟨S, _, E', rel, q, fun v d H1 S1 n1 r1 p1 q1 => ?_, ux⟩
  obtain ⟨c, rfl, q1⟩ := q1
  cases p1
  exact ⟨c, rfl, up _ _ _ _ n1 r1 (.bl _) q1⟩
def pIf (t : PTT) (ta tb : PTE) : PTE := fun S Q E => t S (fun b S1 => if b = true then ta S1 Q E else tb S1 Q E) E
theorem pm_ifExp {c : Expr} (hc : PMT X c tA) (ha : PM X a ta) (hb : PM X b tb) : PM X (.IfExp c a b pos) (pIf tA ta tb) := fun W tk => weakE (pe_ifExp (hc W tk) (ha W tk) (hb W tk)) fun σ H Q => by
  rintro ⟨S, Q', E', rel, q, up, ux⟩
  refine ⟨S, _, E', rel, q, fun c H1 S1 n1 r1 q1 => ?_, ux⟩
  cases c <;> exact ⟨S1, _, E', r1, q1, fun v d H2 S2 n2 r2 p2 q2 => up _ _ _ _ (n1.trans n2) r2 p2 q2, ux.thn n1⟩
end
end Pl
set_option Elab.async false
set_option linter.all false
set_option maxRecDepth 100000
set_option maxHeartbeats 4000000
/-! Pl, part 3: statements -/
namespace Pl
open PySem PySem.Spec L2
open PyProof.Rows (envOfC)
structure PEnds where
  nx : Sta → Prop
  rt : D → Sta → Prop
  bk : Sta → Prop := fun _ => False
  ct : Sta → Prop := fun _ => False
  ex : PX := fun _ _ => False
abbrev PTS := PEnds → Sta → Prop
def UpS (K : PySem.W.Frag) (σ : St) (S : Sta) (H : Hp) (P : St → Hp → Prop) (P' : Sta → Prop) : Prop := ∀ σ' H' S', Nx σ S H σ' S' H' → Rel K H' σ' S' → P' S' → P σ' H'
structure UpD (K : PySem.W.Frag) (σ : St) (S : Sta) (H : Hp) (W : WX) (D : Ends) (P : PEnds) : Prop where
  nx : UpS K σ S H D.nx P.nx
  rt : ∀ v d σ' H' S', Nx σ S H σ' S' H' → Rel K H' σ' S' → Rep K H' v d → P.rt d S' → D.rt v H'
  bk : UpS K σ S H D.bk P.bk
  ct : UpS K σ S H D.ct P.ct
  ex : ∀ x cls dd σ' H' S', Nx σ S H σ' S' H' → Rel K H' σ' S' → XR K H' x cls dd → P.ex x S' → W cls dd σ' H'
def lS (X : Cx) (W : WX) (t : PTS) : TS := fun D σ H => ∃ S P, Rel X.K H σ S ∧ t P S ∧ UpD X.K σ S H W D P
def PMS (X : Cx) (st : Stmt) (t : PTS) : Prop := ∀ W, Takes X W → L2.PS X st (lS X W t)
def PMSs (X : Cx) (st : List Stmt) (t : PTS) : Prop := ∀ W, Takes X W → PSs X st (lS X W t)
section
variable {K : PySem.W.Frag} {σ σ1 : St} {S S1 : Sta} {H H1 : Hp} {W : WX} {D : Ends} {P : PEnds}
theorem UpS.thn {R : St → Hp → Prop} {R' : Sta → Prop} (u : UpS K σ S H R R') (n : Nx σ S H σ1 S1 H1) : UpS K σ1 S1 H1 R R' := fun σ' H' S' n' r q => u σ' H' S' (n.trans n') r q
theorem UpD.thn (u : UpD K σ S H W D P) (n : Nx σ S H σ1 S1 H1) : UpD K σ1 S1 H1 W D P :=
  ⟨u.nx.thn n, fun v d σ' H' S' n' r p q => u.rt v d σ' H' S' (n.trans n') r p q, u.bk.thn n, u.ct.thn n, fun x c d σ' H' S' n' r p q => u.ex x c d σ' H' S' (n.trans n') r p q⟩
theorem UpD.ux (u : UpD K σ S H W D P) : UpX K σ S H W P.ex := fun x c d H' S' n r p q => u.ex x c d σ H' S' n r p q
end
section
variable {X : Cx} {st : Stmt} {rest : List Stmt} {t u : PTS} {e : Expr} {te : PTE} {pos : Pos}
def pNext : PTS := fun P S => P.nx S
def pSeq (t u : PTS) : PTS := fun P S => t { P with nx := u P } S
theorem pmss_nil : PMSs X [] pNext := fun W tk => weakSs pss_nil fun D σ H => by
  rintro ⟨S, P, rel, q, up⟩
  exact up.nx _ _ _ .refl rel q
theorem pmss_cons (h1 : PMS X st t) (h2 : PMSs X rest u) : PMSs X (st :: rest) (pSeq t u) := fun W tk => weakSs (pss_cons (h1 W tk) (h2 W tk)) fun D σ H => by
  rintro ⟨S, P, rel, q, up⟩
  refine ⟨S, _, rel, q, ⟨fun σ' H' S' n r q1 => ⟨S', P, r, q1, up.thn n⟩, up.rt, up.bk, up.ct, up.ex⟩⟩
theorem pmss_one (h1 : PMS X st t) : PMSs X [st] t := fun W tk => pss_one (h1 W tk)
def pBreak : PTS := fun P S => P.bk S
def pCont : PTS := fun P S => P.ct S
theorem pms_pass : PMS X (.Pass pos) pNext := fun W tk => weakS ps_pass fun D σ H => by
  rintro ⟨S, P, rel, q, up⟩
  exact up.nx _ _ _ .refl rel q
theorem pms_break : PMS X (.Break pos) pBreak := fun W tk => weakS ps_break fun D σ H => by
  rintro ⟨S, P, rel, q, up⟩
  exact up.bk _ _ _ .refl rel q
theorem pms_continue : PMS X (.Continue pos) pCont := fun W tk => weakS ps_continue fun D σ H => by
  rintro ⟨S, P, rel, q, up⟩
  exact up.ct _ _ _ .refl rel q
def pDrop (te : PTE) : PTS := fun P S => te S (fun _ S1 => P.nx S1) P.ex
theorem pms_expr (he : PM X e te) (hs : swapsWith e none pos.line X.env = pure false := by rfl) : PMS X (.Expr e pos) (pDrop te) := fun W tk => weakS (ps_expr (he W tk) hs) fun D σ H => by
  rintro ⟨S, P, rel, q, up⟩
  exact ⟨S, _, _, rel, q, fun v d H1 S1 n1 r1 p1 q1 => up.nx _ _ _ n1 r1 q1, up.ux⟩
def pRet (te : PTE) : PTS := fun P S => te S P.rt P.ex
theorem pms_ret (he : PM X e te) : PMS X (.Return (some e) pos) (pRet te) := fun W tk => weakS (ps_ret (he W tk)) fun D σ H => by
  rintro ⟨S, P, rel, q, up⟩
  exact ⟨S, _, _, rel, q, fun v d H1 S1 n1 r1 p1 q1 => up.rt v d σ H1 S1 n1 r1 p1 q1, up.ux⟩
def pRetN : PTS := fun P S => P.rt .non S
theorem pms_retN : PMS X (.Return none pos) pRetN := fun W tk => weakS ps_retN fun D σ H => by
  rintro ⟨S, P, rel, q, up⟩
  exact up.rt .non .non σ H S .refl rel .non q
def pIfS (c : PTT) (t u : PTS) : PTS := fun P S => c S (fun b S1 => if b = true then t P S1 else u P S1) P.ex
theorem pms_if {c : Expr} {a b : List Stmt} {tc : PTT} (hc : PMT X c tc) (ha : PMSs X a t) (hb : PMSs X b u) : PMS X (.If c a b pos) (pIfS tc t u) := fun W tk => weakS (ps_if (hc W tk) (ha W tk) (hb W tk)) fun D σ H => by
  rintro ⟨S, P, rel, q, up⟩
  refine ⟨S, _, _, rel, q, fun d H1 S1 n1 r1 q1 => ?_, up.ux⟩
  cases d <;> exact ⟨S1, P, r1, q1, up.thn n1⟩
/-! ### storing -/
/-- a slot gets a value -/
theorem Rel.put {K : PySem.W.Frag} {H : Hp} {σ : St} {S : Sta} {i : Nat} {v : V} {d : D} (r : Rel K H σ S) (h : Rep K H v d) :
    Nx σ S H (σ.set i (some v)) ⟨S.ρ.set i (.val d), S.W⟩ H ∧ Rel K H (σ.set i (some v)) ⟨S.ρ.set i (.val d), S.W⟩ := by
  have back : ∀ j b, OwnS (σ.set i (some v)) (S.ρ.set i (.val d)) j b → j ≠ i ∧ OwnS σ S.ρ j b := fun j b h => by
    obtain ⟨⟨o', h1⟩, h2⟩ := h
    by_cases hj : j = i
    · subst hj
      by_cases hl : j < S.ρ.length
      · rw [List.getElem?_set_self hl] at h1; cases h1
      · rw [List.getElem?_eq_none (by simpa using hl)] at h1; cases h1
    · rw [List.getElem?_set_ne (Ne.symm hj)] at h1 h2
      exact ⟨hj, ⟨o', h1⟩, h2⟩
  refine ⟨⟨Step.refl, fun _ h => h, fun x h => .inl ?_⟩, ⟨by simpa using r.len, fun j s es => ?_, fun j k b h1 h2 => r.inj j k b (back _ _ h1).2 (back _ _ h2).2, r.wor, fun j b h => r.dis j b (back _ _ h).2⟩⟩
  · rcases h with ⟨j, h⟩ | h
    · exact .inl ⟨j, (back j x h).2⟩
    · exact .inr h
  · have es' : (S.ρ.set i (.val d))[j]? = some s := es
    by_cases hj : j = i
    · subst hj
      by_cases hl : j < S.ρ.length
      · rw [List.getElem?_set_self hl] at es'; cases es'
        exact ⟨v, List.getElem?_set_self (by rw [r.len]; exact hl), h⟩
      · rw [List.getElem?_eq_none (by simpa using hl)] at es'; cases es'
    · rw [List.getElem?_set_ne (Ne.symm hj)] at es'
      have q := r.slot j s es'
      have e2 : (σ.set i (some v))[j]? = σ[j]? := List.getElem?_set_ne (Ne.symm hj)
      rw [e2]; exact q
/-- a slot gets a new own object -/
theorem Rel.putOwn {K : PySem.W.Frag} {H : Hp} {σ : St} {S : Sta} {i : Nat} {a : Addr} {o : Own} (r : Rel K H σ S) (h : OwnAt K H a o) (n : ¬ Oa σ S a) :
    Rel K H (σ.set i (some (.ref a))) ⟨S.ρ.set i (.own o), S.W⟩ ∧ ∀ x, Oa (σ.set i (some (.ref a))) ⟨S.ρ.set i (.own o), S.W⟩ x → Oa σ S x ∨ x = a := by
  have back : ∀ j b, OwnS (σ.set i (some (.ref a))) (S.ρ.set i (.own o)) j b → (j = i ∧ b = a) ∨ (j ≠ i ∧ OwnS σ S.ρ j b) := fun j b h => by
    obtain ⟨⟨o', h1⟩, h2⟩ := h
    by_cases hj : j = i
    · subst hj
      by_cases hl : j < σ.length
      · rw [List.getElem?_set_self hl] at h2; cases h2; exact .inl ⟨rfl, rfl⟩
      · rw [List.getElem?_eq_none (by simpa using hl)] at h2; cases h2
    · rw [List.getElem?_set_ne (Ne.symm hj)] at h1 h2
      exact .inr ⟨hj, ⟨o', h1⟩, h2⟩
  refine ⟨⟨by simpa using r.len, fun j s es => ?_, fun j k b h1 h2 => ?_, r.wor, fun j b h => ?_⟩, fun x h => ?_⟩
  · have es' : (S.ρ.set i (.own o))[j]? = some s := es
    by_cases hj : j = i
    · subst hj
      by_cases hl : j < S.ρ.length
      · rw [List.getElem?_set_self hl] at es'; cases es'
        exact ⟨a, List.getElem?_set_self (by rw [r.len]; exact hl), h⟩
      · rw [List.getElem?_eq_none (by simpa using hl)] at es'; cases es'
    · rw [List.getElem?_set_ne (Ne.symm hj)] at es'
      have q := r.slot j s es'
      have e2 : (σ.set i (some (.ref a)))[j]? = σ[j]? := List.getElem?_set_ne (Ne.symm hj)
      rw [e2]; exact q
  · rcases back _ _ h1 with ⟨e1, e2⟩ | ⟨n1, g1⟩
    · rcases back _ _ h2 with ⟨e3, _⟩ | ⟨n2, g2⟩
      · rw [e1, e3]
      · subst e2; exact absurd (.inl ⟨k, g2⟩) n
    · rcases back _ _ h2 with ⟨e3, e4⟩ | ⟨n2, g2⟩
      · subst e4; exact absurd (.inl ⟨j, g1⟩) n
      · exact r.inj j k b g1 g2
  · rcases back _ _ h with ⟨rfl, rfl⟩ | ⟨_, h⟩
    · cases q : S.W b with
      | none => rfl
      | some o' => exact absurd (.inr (by rw [q]; exact fun z => nomatch z)) n
    · exact r.dis j b h
  · rcases h with ⟨j, h⟩ | h
    · rcases back _ _ h with ⟨_, rfl⟩ | ⟨_, h⟩
      · exact .inr rfl
      · exact .inl (.inl ⟨j, h⟩)
    · exact .inl (.inr h)
/-- a target takes a value: names, tuples of names; vs: the slots that it may store -/
abbrev PTG := D → Sta → (Sta → Prop) → Prop
abbrev PTGs := List D → Sta → (Sta → Prop) → Prop
def UpG (vs : List Nat) (K : PySem.W.Frag) (σ : St) (S : Sta) (H : Hp) (P : St → Hp → Prop) (P' : Sta → Prop) : Prop := ∀ σ' H' S', wipe σ' vs = wipe σ vs → Nx σ S H σ' S' H' → Rel K H' σ' S' → P' S' → P σ' H'
def lG (X : Cx) (vs : List Nat) (t : PTG) : TG := fun v σ H Q => ∃ d S Q', Rel X.K H σ S ∧ Rep X.K H v d ∧ t d S Q' ∧ UpG vs X.K σ S H Q Q'
def lGs (X : Cx) (vs : List Nat) (t : PTGs) : TGs := fun xs σ H Q => ∃ ds S Q', Rel X.K H σ S ∧ RepAll X.K H xs ds ∧ t ds S Q' ∧ UpG vs X.K σ S H Q Q'
def PMG (X : Cx) (vs : List Nat) (e : Expr) (t : PTG) : Prop := PG X e (lG X vs t)
def PMGs (X : Cx) (vs : List Nat) (e : List Expr) (t : PTGs) : Prop := PGs X e (lGs X vs t)
theorem weakG {X : Cx} {e : Expr} {t t' : TG} (h : PG X e t) (w : ∀ v σ H Q, t' v σ H Q → t v σ H Q) : PG X e t' := ⟨fun pins s σ H v u Q I r q => h.run pins s σ H v u Q I r (w _ _ _ _ q)⟩
theorem weakGs {X : Cx} {e : List Expr} {t t' : TGs} (h : PGs X e t) (w : ∀ v σ H Q, t' v σ H Q → t v σ H Q) : PGs X e t' := ⟨fun pins s σ H v u Q I r q => h.run pins s σ H v u Q I r (w _ _ _ _ q)⟩
theorem wipe_get (σ : St) : ∀ (vs : List Nat) (j : Nat), (wipe σ vs)[j]? = if j ∈ vs then σ[j]?.map (fun _ => none) else σ[j]?
  | [], j => by simp [wipe]
  | v :: vs, j => by
    unfold wipe
    by_cases hj : v = j
    · subst hj
      by_cases hl : v < σ.length
      · rw [List.getElem?_set_self (by rw [wipe_length]; exact hl), if_pos (by simp), List.getElem?_eq_getElem hl]; rfl
      · rw [List.getElem?_eq_none (by rw [List.length_set, wipe_length]; omega), if_pos (by simp), List.getElem?_eq_none (by omega)]; rfl
    · rw [List.getElem?_set_ne hj, wipe_get σ vs j]
      have e : (j ∈ v :: vs) ↔ j ∈ vs := by simp [List.mem_cons, Ne.symm hj]
      by_cases hm : j ∈ vs
      · rw [if_pos hm, if_pos (e.mpr hm)]
      · rw [if_neg hm, if_neg (fun z => hm (e.mp z))]
theorem wipe_set {σ : St} {vs : List Nat} {i : Nat} {x : Option V} (hi : i ∈ vs) : wipe (σ.set i x) vs = wipe σ vs := List.ext_getElem? fun j => by
  rw [wipe_get, wipe_get]
  by_cases hj : j ∈ vs
  · rw [if_pos hj, if_pos hj]
    by_cases e : i = j
    · subst e
      by_cases hl : i < σ.length
      · rw [List.getElem?_set_self hl, List.getElem?_eq_getElem hl]; rfl
      · rw [List.getElem?_eq_none (by simpa using hl), List.getElem?_eq_none (by omega)]
    · rw [List.getElem?_set_ne e]
  · rw [if_neg hj, if_neg hj, List.getElem?_set_ne (fun (z : i = j) => hj (z ▸ hi))]
def pgName (i : Nat) : PTG := fun d S Q => Q ⟨S.ρ.set i (.val d), S.W⟩
theorem pmg_of {vs : List Nat} {i : Nat} (h : PG X e (gName i)) (hi : i ∈ vs := by decide) : PMG X vs e (pgName i) := weakG h fun v σ H Q => by
  rintro ⟨d, S, Q', rel, rp, q, up⟩
  obtain ⟨nx, r⟩ := rel.put (i := i) rp
  exact up _ _ _ (wipe_set hi) nx r q
def pgNil : PTGs := fun ds S Q => ds = [] ∧ Q S
def pgCons (t : PTG) (u : PTGs) : PTGs := fun ds S Q => ∃ d r, ds = d :: r ∧ t d S fun S1 => u r S1 Q
theorem pmgs_nil {vs : List Nat} : PMGs X vs [] pgNil := weakGs pgs_nil fun xs σ H Q => by
  rintro ⟨ds, S, Q', rel, rp, ⟨rfl, q⟩, up⟩
  cases rp
  exact ⟨rfl, up _ _ _ rfl .refl rel q⟩
theorem pmgs_cons {vs : List Nat} {es : List Expr} {t : PTG} {u : PTGs} (h1 : PMG X vs e t) (h2 : PMGs X vs es u) (hs : (assignEach (e :: es) X.env).map (·.2) = assign e X.env :: (assignEach es X.env).map (·.2) := by rfl) : PMGs X vs (e :: es) (pgCons t u) := weakGs (pgs_cons h1 h2 hs) fun xs σ H Q => by
  rintro ⟨ds, S, Q', rel, rp, ⟨d, r, rfl, q⟩, up⟩
  cases rp with
  | cons p pr =>
    exact ⟨_, _, rfl, d, S, _, rel, p, q, fun σ1 H1 S1 w1 n1 r1 q1 => ⟨r, S1, Q', r1, pr.nx n1, q1, fun σ' H' S' w n' r' q' => up σ' H' S' (w.trans w1) (n1.trans n') r' q'⟩⟩
/-- (a, b) = a tuple -/
def pgTup (n : Nat) (t : PTGs) : PTG := fun d S Q => ∃ ds, d = .tup ds ∧ ds.length = n ∧ t ds S Q
theorem pmg_tup {vs : List Nat} {es : List Expr} {k : Nat} {t : PTGs} {n : Nat} (hc : X.calm = true) (h : PMGs X vs es t) (hn : (assignEach es X.env).length = n := by rfl) (hst : (assignEach es X.env).findIdx? (·.1) = none := by rfl) : PMG X vs (.Tuple es k pos) (pgTup n t) :=
  weakG (pg_tup hc h hn hst) fun v σ H Q => by
    rintro ⟨d, S, Q', rel, rp, ⟨ds, rfl, hl, q⟩, up⟩
    cases rp with
    | tup hq ha => exact ⟨_, _, rfl, hq, by rw [ha.length]; exact hl, ds, S, Q', rel, ha, q, up⟩
def pAsg (te : PTE) (g : PTG) : PTS := fun P S => te S (fun d S1 => g d S1 P.nx) P.ex
theorem asg {vs : List Nat} {W : WX} {g : PTG} : ∀ D σ H, lS X W (pAsg te g) D σ H → tAsg (lE X W te) (lG X vs g) D σ H := by
  rintro D σ H ⟨S, P, rel, q, up⟩
  exact ⟨S, _, _, rel, q, fun v d H1 S1 n1 r1 p1 q1 => ⟨d, S1, _, r1, p1, q1, fun σ' H' S' _ n' r' q' => up.nx σ' H' S' (n1.trans n') r' q'⟩, up.ux⟩
theorem pms_asg {vs : List Nat} {tg : Expr} {g : PTG} (he : PM X e te) (hg : PMG X vs tg g) (hs : swapsWithSole [tg] e pos.line X.env = pure false := by rfl) (hw : swappedStores [tg] e X.env = pure none := by rfl)
    (h1 : (assignEach [tg] X.env).map (·.2) = [assign tg X.env] := by rfl) : PMS X (.Assign [tg] e pos) (pAsg te g) := fun W tk => weakS (ps_asg (he W tk) hg hs hw h1) asg
def pSet (i : Nat) (te : PTE) : PTS := fun P S => te S (fun d S1 => P.nx ⟨S1.ρ.set i (.val d), S1.W⟩) P.ex
/-- x = e, whatever rule of the layer does it -/
theorem pms_set {i : Nat} {st : Stmt} (h : ∀ W, Takes X W → L2.PS X st (tAsg (lE X W te) (gName i))) : PMS X st (pSet i te) := fun W tk => weakS (h W tk) fun D σ H => by
  rintro ⟨S, P, rel, q, up⟩
  refine ⟨S, _, _, rel, q, fun v d H1 S1 n1 r1 p1 q1 => ?_, up.ux⟩
  obtain ⟨nx, r⟩ := r1.put (i := i) p1
  exact up.nx _ _ _ (n1.trans nx) r q1
/-- a, b = x, y -/
def pPar (i j : Nat) (t : PTA) : PTS := fun P S => t S (fun ds S1 => ∃ x y, ds = [x, y] ∧ P.nx ⟨(S1.ρ.set i (.val x)).set j (.val y), S1.W⟩) P.ex
theorem pms_par {i j : Nat} {t : PTA} {st : Stmt} (h : ∀ W, Takes X W → L2.PS X st (tPar i j (lA X W t))) : PMS X st (pPar i j t) := fun W tk => weakS (h W tk) fun D σ H => by
  rintro ⟨S, P, rel, q, up⟩
  refine ⟨S, _, _, rel, q, fun vs ds H1 S1 n1 r1 p1 q1 => ?_, up.ux⟩
  obtain ⟨x, y, rfl, q1⟩ := q1
  cases p1 with
  | cons p p' =>
    cases p' with
    | cons p' p'' =>
      cases p''
      obtain ⟨na, ra⟩ := r1.put (i := i) p
      obtain ⟨nb, rb⟩ := ra.put (i := j) p'
      exact ⟨_, _, rfl, up.nx _ _ _ ((n1.trans na).trans nb) rb q1⟩
/-! ### raise -/
def pRaise (x : Exn) : PTS := fun P S => P.ex x S
theorem pms_raise {cls : Value} (h : ∀ W, Takes X W → L2.PS X st (fun _ σ H => W cls none σ H)) : PMS X st (pRaise ⟨cls, none⟩) := fun W tk => weakS (h W tk) fun D σ H => by
  rintro ⟨S, P, rel, q, up⟩
  exact up.ex ⟨cls, none⟩ cls none σ H S .refl rel ⟨rfl, rfl⟩ q
end
/-! ### defs -/
/-- what a def promises, over data: the arguments, the shared own objects; what comes back -/
abbrev PFn := List D → (Addr → Option Own) → (D → (Addr → Option Own) → Prop) → (Exn → (Addr → Option Own) → Prop) → Prop
structure NxW (W : Addr → Option Own) (H : Hp) (W' : Addr → Option Own) (H' : Hp) : Prop where
  st : Step (fun a => W a ≠ none) H H'
  kn : ∀ b, H' b = none → H b = none
  oa : ∀ a, W' a ≠ none → W a ≠ none ∨ H a = none
def spP (K : PySem.W.Frag) (n : Nat) (φ : PFn) : Sp := fun vs H Q E => ∃ ds Wo Q' E', vs.length = n ∧ RepAll K H vs ds ∧ RelW K H Wo ∧ φ ds Wo Q' E' ∧
  (∀ v d H' W', NxW Wo H W' H' → RelW K H' W' → Rep K H' v d → Q' d W' → Q v H') ∧ (∀ x cls dd H' W', NxW Wo H W' H' → RelW K H' W' → XR K H' x cls dd → E' x W' → E cls dd H')
/-- the slots at a def's entry -/
def start0 (n : Nat) (ds : List D) : List Slot := ds.map .val ++ List.replicate (n - ds.length) .emp
theorem start_rel {K : PySem.W.Frag} {H : Hp} {N : List Str} {vs : List V} {ds : List D} {Wo : Addr → Option Own} (r : RepAll K H vs ds) (w : RelW K H Wo) :
    Rel K H (start N vs) ⟨start0 N.length ds, Wo⟩ ∧ ∀ a, Oa (start N vs) ⟨start0 N.length ds, Wo⟩ a → Wo a ≠ none := by
  have hl := r.length
  have no : ∀ (i : Nat) o, (start0 N.length ds)[i]? ≠ some (.own o) := fun i o e => by
    unfold start0 at e
    rcases List.mem_append.mp (List.mem_of_getElem? e) with h | h
    · obtain ⟨d, _, z⟩ := List.mem_map.mp h; cases z
    · have := List.eq_of_mem_replicate h; cases this
  refine ⟨⟨?_, fun i s e => ?_, fun i j a h => absurd h.1.choose_spec (no i _), w, fun i a h => absurd h.1.choose_spec (no i _)⟩, fun a h => ?_⟩
  · simp [L2.start, start0, hl]
  · have e' : (start0 N.length ds)[i]? = some s := e
    unfold start0 at e'
    by_cases hi : i < ds.length
    · rw [List.getElem?_append_left (by simpa using hi), List.getElem?_map, List.getElem?_eq_getElem hi] at e'
      cases e'
      obtain ⟨v, h1, h2⟩ := r.get (List.getElem?_eq_getElem hi)
      refine ⟨v, ?_, h2⟩
      unfold L2.start
      rw [List.getElem?_append_left (by rw [List.length_map, hl]; exact hi), List.getElem?_map, h1]
      rfl
    · rw [List.getElem?_append_right (by simpa using hi)] at e'
      have := List.eq_of_mem_replicate (List.mem_of_getElem? e')
      subst this
      trivial
  · rcases h with ⟨i, h⟩ | h
    · exact absurd h.1.choose_spec (no i _)
    · exact h
section
variable {P : Program} {w : World} {K : PySem.W.Frag} {mg : Str → Option Value} {base : Heap}
/-- THE RULE for a def: its body as a derivation, and what its reading says of data -/
theorem ok_of {x qual : Str} {st : Stmt} {f : Addr} {fd : FuncData} {N ps : List Str} {k : Nat} {φ : PFn} (F : Fun K x qual st f fd) (S : FnScope N ps (defScope st))
    (hbody : ∀ (cdv : Value) (A : Around) (outer : List Env) (s : Shared) (H : Hp) (E : XK), Room k (A.deeper (envOfC qual (defScope st) s.heap.objs.size f cdv)) →
      ∃ t, PMSs (cxOf (L2.CX P w) P w K mg base N qual (defScope st) f cdv A outer s H E) (defBody st) t ∧
        ∀ ds Wo Q E', ds.length = ps.length → φ ds Wo Q E' → t { nx := fun S => Q .non S.W, rt := fun d S => Q d S.W, ex := fun x S => E' x S.W } ⟨start0 N.length ds, Wo⟩) :
    FnOk P w K mg base (L2.CX P w) (k + 1) f fd ps (spP K ps.length φ) := by
  refine F.okX S (fun vs H Q E h => ?_) (fun cdv A outer s H vs Q E hr h => ?_)
  · obtain ⟨_, _, _, _, h, _⟩ := h; exact h
  obtain ⟨ds, Wo, Q', E', hl, rep, rw_, hφ, up, ux⟩ := h
  obtain ⟨t, ht, hq⟩ := hbody cdv A outer s H E hr
  have q := hq ds Wo Q' E' (by rw [← rep.length]; exact hl) hφ
  obtain ⟨rel, oa⟩ := start_rel (N := N) rep rw_
  have nxw : ∀ {σ' H' S'}, Nx (start N vs) ⟨start0 N.length ds, Wo⟩ H σ' S' H' → NxW Wo H S'.W H' := fun {σ' H' S'} n =>
    ⟨fun b o e q => n.st b o e (q.imp id fun z y => z (oa b y)), n.kn, fun a h => (n.oa a (.inr h)).imp (oa a) id⟩
  refine ⟨_, ht (fun cls d _ H => E cls d H) (takes_of rfl rfl rfl rfl), ⟨⟨start0 N.length ds, Wo⟩, _, rel, q, ⟨fun σ' H' S' n r q1 => up .non .non H' S'.W (nxw n) r.wor .non q1, fun v d σ' H' S' n r p q1 => up v d H' S'.W (nxw n) r.wor p q1, fun _ _ _ _ _ z => z.elim, fun _ _ _ _ _ z => z.elim,
    fun x c d σ' H' S' n r p q1 => ux x c d H' S'.W (nxw n) r.wor p q1⟩⟩⟩
/-- a promise that asks more, or promises less -/
theorem FnOk.wk {CX : CXT} {k n : Nat} {f : Addr} {fd : FuncData} {ps : List Str} {φ ψ : PFn} (F : FnOk P w K mg base CX k f fd ps (spP K n φ)) (h : ∀ ds Wo Q E, ψ ds Wo Q E → φ ds Wo Q E) : FnOk P w K mg base CX k f fd ps (spP K n ψ) :=
  F.imp fun vs H Q E ⟨ds, Wo, Q', E', h1, h2, h3, h4, h5, h6⟩ => ⟨ds, Wo, Q', E', h1, h2, h3, h _ _ _ _ h4, h5, h6⟩
end
/-! ### calls of defs -/
section
variable {X : Cx} {k n : Nat} {f : Addr} {fd : FuncData} {ps : List Str} {φ : PFn} {x : Str} {p pos : Pos} {e : Expr} {es : List Expr} {t : PTA}
/-- f(e, ..), all arguments values -/
def pCall (n : Nat) (φ : PFn) (t : PTA) : PTE := fun S Q E => t S (fun ds S1 => ds.length = n ∧ φ ds S1.W (fun d W' => Q d ⟨S1.ρ, W'⟩) (fun x W' => E x ⟨S1.ρ, W'⟩)) E
/-- back from a call: our slots stand, the shared objects are as the callee left them -/
theorem Rel.after {K : PySem.W.Frag} {σ : St} {S : Sta} {H H' : Hp} {W' : Addr → Option Own} (r : Rel K H σ S) (n : NxW S.W H W' H') (w : RelW K H' W') : Nx σ S H σ ⟨S.ρ, W'⟩ H' ∧ Rel K H' σ ⟨S.ρ, W'⟩ := by
  have nw : ∀ i a, OwnS σ S.ρ i a → ¬ (S.W a ≠ none) := fun i a h z => z (r.dis i a h)
  have tr : ∀ i a, OwnS σ S.ρ i a → H a ≠ none := fun i a h z => by
    obtain ⟨u, e, _⟩ := r.known (.inl ⟨i, h⟩)
    rw [z] at e; cases e
  refine ⟨⟨n.st.mono fun a h => .inr h, n.kn, fun a h => ?_⟩, ⟨r.len, fun i s e => ?_, r.inj, w, fun i a h => ?_⟩⟩
  · rcases h with ⟨i, h⟩ | h
    · exact .inl (.inl ⟨i, h⟩)
    · exact (n.oa a h).imp (fun z => .inr z) id
  · have q := r.slot i s e
    cases s with
    | emp => trivial
    | val d => obtain ⟨v, h1, h2⟩ := q; exact ⟨v, h1, h2.step n.st⟩
    | own o => obtain ⟨a, h1, h2⟩ := q; exact ⟨a, h1, h2.step n.st (nw i a ⟨⟨o, e⟩, h1⟩)⟩
  · show W' a = none
    cases q : W' a with
    | none => rfl
    | some o =>
      rcases n.oa a (by rw [q]; exact fun z => nomatch z) with z | z
      · exact absurd z (nw i a h)
      · exact absurd z (tr i a h)
theorem pm_call (F : FnOk X.prog X.w X.K X.mg X.base (L2.CX X.prog X.w) k f fd ps (spP X.K n φ)) (hr : Room k X.A) (hg : Gl X x) (hm : X.mg x = some (.ref f)) (hk : PySem.W.keepIn X.K (.ref f) = true) (hb : Binds X.K fd ps [])
    (ha : PMA X (e :: es) t) (hdb : (x == ("__debug__" : Str)) = false := by decide) (he : starEach (e :: es) X.env = (false, eval e X.env) :: starEach es X.env := by rfl) (hpl : (backTo pos (starEach es X.env)).any (·.1) = false := by rfl) :
    PM X (.Call (.Name x p) (e :: es) [] pos) (pCall n φ t) := fun W tk => weakE (pe_callS (E := WE W) F hr hg hm hk hb (fun σ => passAt tk σ) (ha W tk) hdb he hpl) fun σ H Q => by
  rintro ⟨S, Q', E', rel, q, up, ux⟩
  refine ⟨S, _, E', rel, q, fun vs ds H1 S1 n1 r1 p1 q1 => ?_, ux⟩
  refine ⟨ds, S1.W, _, _, by rw [p1.length]; exact q1.1, p1, r1.wor, q1.2, fun v d H' W' nw rw' rp q2 => ?_, fun y c dd H' W' nw rw' xr q2 => ?_⟩
  · obtain ⟨nx, r⟩ := r1.after nw rw'
    exact up v d H' _ (n1.trans nx) r rp q2
  · obtain ⟨nx, r⟩ := r1.after nw rw'
    exact ux y c dd H' _ (n1.trans nx) r xr q2
end
end Pl
set_option Elab.async false
set_option linter.all false
set_option maxRecDepth 100000
set_option maxHeartbeats 4000000
/-! Pl, part 4: loops, comprehensions -/
namespace Pl
open PySem PySem.Spec L2
open PyProof.Rows (envOfC)
/-- what is walked: the items as data -/
abbrev PTI := Sta → (List D → Sta → Prop) → PX → Prop
def WalksD (K : PySem.W.Frag) (J : It) (H : Hp) (ds : List D) : Prop := ∃ C : Hp → Prop, C H ∧ (∀ (A : Addr → Prop) H H', Step A H H' → C H → C H') ∧
  ∀ i H, C H → (ds.length ≤ i → J.stop i H) ∧ ∀ d, ds[i]? = some d → J.go i H ∧ ∀ x H', J.yld i H x H' → Same H H' ∧ Rep K H' x d
def lI (X : Cx) (W : WX) (t : PTI) : TI := fun σ H R => ∃ S Q' E', Rel X.K H σ S ∧ t S Q' E' ∧ (∀ J ds H' S', Nx σ S H σ S' H' → Rel X.K H' σ S' → WalksD X.K J H' ds → Q' ds S' → R J H') ∧ UpX X.K σ S H W E'
def PMI (X : Cx) (tg iter : Expr) (t : PTI) : Prop := ∀ W, Takes X W → PI X tg iter (lI X W t)
theorem weakI {X : Cx} {tg iter : Expr} {t t' : TI} (h : PI X tg iter t) (w : ∀ σ H R, t' σ H R → t σ H R) : PI X tg iter t' := ⟨fun pins s σ H R I q => h.run pins s σ H R I (w _ _ _ q)⟩
section
variable {X : Cx} {tg iter : Expr} {e : Expr} {te : PTE} {pos : Pos}
/-- a list or a tuple -/
def iSeq (K : PySem.W.Frag) (tl : TE) : TI := fun σ H R => tl σ H fun x H1 => ∃ a, x = .ref a ∧ (((∃ xs, SqL K H1 a xs) ∧ R (Itl K a) H1) ∨ ((∃ xs, SqT K H1 a xs) ∧ R (Itt K a) H1))
theorem pi_seq {l : Expr} {tl : TE} (hl : PE X l tl) : PI X tg l (iSeq X.K tl) := by
  refine ⟨fun pins s σ H R I h => ?_⟩
  refine thn (hl.run pins s σ H _ I h) fun v s1 ⟨x, H1, I1, r1, q1⟩ => ?_
  obtain ⟨a, e, q⟩ := q1
  subst e
  cases r1
  have e : ∀ b, b ∈ [s1.heap.objs.size] → FpOk X pins H1 b := fun b hb => by
    have e : b = s1.heap.objs.size := by simpa using hb
    subst e
    exact I1.fpOk (Nat.le_refl _) (I1.hok.fresh (Nat.le_refl _))
  rcases q with ⟨⟨xs, hq⟩, q⟩ | ⟨⟨xs, hq⟩, q⟩
  · obtain ⟨its, rv, p, hz⟩ := I1.list hq
    refine wpAny_pyIter_list p.isList ?_
    exact ⟨s1.heap.objs.size, [s1.heap.objs.size], _, _, H1, rfl, I1.kept (t' := s1.toks) fun b o e => Heap.get?_push_of_some _ e, turn_list a _, ⟨_, Heap.get?_push_size _ rfl, rfl, rfl⟩, e, q⟩
  · obtain ⟨its, rv, p, hz⟩ := I1.tuple hq
    refine wpAny_pyIter_tuple (show s1.heap.IsTuple a its.toArray from p) ?_
    exact ⟨s1.heap.objs.size, [s1.heap.objs.size], _, _, H1, rfl, I1.kept (t' := s1.toks) fun b o e => Heap.get?_push_of_some _ e, turn_tuple a _, ⟨_, Heap.get?_push_size _ rfl, rfl, rfl⟩, e, q⟩
theorem walks_list {K : PySem.W.Frag} {H : Hp} {a : Addr} {xs : List V} {ds : List D} (h : FzL K H a xs) (r : RepAll K H xs ds) : WalksD K (Itl K a) H ds := by
  refine ⟨fun H => FzL K H a xs ∧ RepAll K H xs ds, ⟨h, r⟩, fun A H H' s ⟨h, r⟩ => ⟨s.fzl h, r.step s⟩, fun i H ⟨h, r⟩ => ⟨fun hi => ⟨xs, h.sq, by rw [r.length]; exact hi⟩, fun d hd => ?_⟩⟩
  obtain ⟨v, h1, h2⟩ := r.get hd
  refine ⟨⟨xs, v, h.sq, h1⟩, fun x H' y => ?_⟩
  obtain ⟨e, y⟩ := y
  subst e
  have e := (y xs h.sq).symm.trans h1
  cases e
  exact ⟨Same.refl _, h2⟩
theorem walks_tup {K : PySem.W.Frag} {H : Hp} {a : Addr} {xs : List V} {ds : List D} (h : SqT K H a xs) (r : RepAll K H xs ds) : WalksD K (Itt K a) H ds := by
  refine ⟨fun H => SqT K H a xs ∧ RepAll K H xs ds, ⟨h, r⟩, fun A H H' s ⟨h, r⟩ => ⟨s.tup h, r.step s⟩, fun i H ⟨h, r⟩ => ⟨fun hi => ⟨xs, h, by rw [r.length]; exact hi⟩, fun d hd => ?_⟩⟩
  obtain ⟨v, h1, h2⟩ := r.get hd
  refine ⟨⟨xs, v, h, h1⟩, fun x H' y => ?_⟩
  obtain ⟨e, y⟩ := y
  subst e
  have e := (y xs h).symm.trans h1
  cases e
  exact ⟨Same.refl _, h2⟩
theorem walks_range {K : PySem.W.Frag} {H : Hp} {lo : Int} {n : Nat} : WalksD K (Itr lo n) H ((List.range n).map fun (i : Nat) => D.int (lo + i)) := by
  refine ⟨fun _ => True, trivial, fun _ _ _ _ _ => trivial, fun i H _ => ⟨fun hi => (by show n ≤ i; simpa using hi), fun d hd => ?_⟩⟩
  rw [List.getElem?_map] at hd
  by_cases hi : i < n
  · rw [List.getElem?_eq_getElem (by simpa using hi)] at hd
    simp only [List.getElem_range, Option.map_some, Option.some.injEq] at hd
    subst hd
    refine ⟨hi, fun x H' y => ?_⟩
    obtain ⟨e, y⟩ := y
    subst e y
    exact ⟨Same.refl _, .int _⟩
  · rw [List.getElem?_eq_none (by simpa using hi)] at hd; cases hd
def itD (d : D) (Q : List D → Prop) : Prop := match d with
  | .lst xs => Q xs
  | .tup xs => Q xs
  | _ => False
def pIter (t : PTE) : PTI := fun S Q E => t S (fun d S1 => itD d fun xs => Q xs S1) E
theorem pmi_seq (h : PM X e te) : PMI X tg e (pIter te) := fun W tk => weakI (pi_seq (h W tk)) fun σ H R => by
  rintro ⟨S, Q', E', rel, q, up, ux⟩
  refine ⟨S, _, E', rel, q, fun v d H1 S1 n1 r1 p1 q1 => ?_, ux⟩
  cases p1 with
  | lst h r => exact ⟨_, rfl, .inl ⟨⟨_, h.sq⟩, up _ _ _ _ n1 r1 (walks_list h r) q1⟩⟩
  | tup h r => exact ⟨_, rfl, .inr ⟨⟨_, h⟩, up _ _ _ _ n1 r1 (walks_tup h r) q1⟩⟩
  | _ => exact q1.elim
def rangeD (lo : Int) (n : Nat) : List D := (List.range n).map fun (i : Nat) => D.int (lo + i)
def pRng1 (t : PTA) : PTI := fun S Q E => t S (fun ds S1 => ∃ j : Int, ds = [.int j] ∧ (-(2 ^ 62) ≤ j ∧ j < 2 ^ 62) ∧ Q (rangeD 0 j.toNat) S1) E
def pRng2 (t : PTA) : PTI := fun S Q E => t S (fun ds S1 => ∃ i j : Int, ds = [.int i, .int j] ∧ (-(2 ^ 62) ≤ i ∧ i < 2 ^ 62 ∧ -(2 ^ 62) ≤ j ∧ j < 2 ^ 62) ∧ Q (rangeD i (j - i).toNat) S1) E
theorem pmi_range1 {a : Expr} {ta : PTA} {p pos : Pos} (hg : Gl X "range") (hm : X.mg "range" = none) (ha : PMA X [a] ta) (hs : starEach [a] X.env = [(false, eval a X.env)] := by rfl) : PMI X tg (.Call (.Name "range" p) [a] [] pos) (pRng1 ta) := fun W tk => weakI (pi_range1 hg hm (ha W tk) hs) fun σ H R => by
  rintro ⟨S, Q', E', rel, q, up, ux⟩
  refine ⟨S, _, E', rel, q, fun vs ds H1 S1 n1 r1 p1 q1 => ?_, ux⟩
  obtain ⟨j, rfl, ⟨h1, h2⟩, q1⟩ := q1
  cases p1 with
  | cons p pr =>
    cases pr; cases p
    exact ⟨j, rfl, h1, h2, up _ _ _ _ n1 r1 walks_range q1⟩
theorem pmi_range2 {a b : Expr} {ta : PTA} {p pos : Pos} (hg : Gl X "range") (hm : X.mg "range" = none) (ha : PMA X [a, b] ta) (hs : starEach [a, b] X.env = [(false, eval a X.env), (false, eval b X.env)] := by rfl) (hs2 : starEach [b] X.env = [(false, eval b X.env)] := by rfl) :
    PMI X tg (.Call (.Name "range" p) [a, b] [] pos) (pRng2 ta) := fun W tk => weakI (pi_range2 hg hm (ha W tk) hs hs2) fun σ H R => by
  rintro ⟨S, Q', E', rel, q, up, ux⟩
  refine ⟨S, _, E', rel, q, fun vs ds H1 S1 n1 r1 p1 q1 => ?_, ux⟩
  obtain ⟨i, j, rfl, h1, q1⟩ := q1
  cases p1 with
  | cons p pr =>
    cases pr with
    | cons p' pr => cases pr; cases p; cases p'; exact ⟨i, j, rfl, h1, up _ _ _ _ n1 r1 walks_range q1⟩
/-! ### for -/
def forW (g : PTG) (tb : PTS) (P : PEnds) : List D → Sta → Prop
  | [], S => P.nx S
  | d :: r, S => g d S fun S2 => tb { P with nx := forW g tb P r, ct := forW g tb P r, bk := P.nx } S2
def pFor (ti : PTI) (g : PTG) (tb : PTS) : PTS := fun P S => ti S (fun ds S1 => forW g tb P ds S1) P.ex
theorem pms_for {vs : List Nat} {body : List Stmt} {ti : PTI} {g : PTG} {tb : PTS} (hp : PassesOwn (model X.prog X.w) X.A X.env X.xe) (hc : X.calm = true) (hi : PMI X tg iter ti) (hg : PMG X vs tg g) (hb : PMSs X body tb)
    (hs : ∀ x, foldedSetIterable iter X.env x = pure x := by intro _; rfl) : PMS X (.For tg iter body [] pos) (pFor ti g tb) := fun W tk => weakS (ps_for hp hc (hi W tk) hg (hb W tk) hs) fun D σ H => by
  rintro ⟨S, P, rel, q, up⟩
  refine ⟨S, _, _, rel, q, fun J ds H1 S1 n1 r1 wk q1 => ?_, up.ux⟩
  obtain ⟨C, c1, cs, turn⟩ := wk
  have up1 := up.thn n1
  refine ⟨fun i m σ' H' => i + m = ds.length ∧ C H' ∧ ∃ S', Nx σ S1 H1 σ' S' H' ∧ Rel X.K H' σ' S' ∧ forW g tb P (ds.drop i) S', ⟨ds.length, by omega, c1, S1, .refl, r1, q1⟩, fun i m σ' H' h => ?_⟩
  obtain ⟨em, c, S', n, r, w⟩ := h
  obtain ⟨t1, t2⟩ := turn i H' c
  by_cases hi : i < ds.length
  · obtain ⟨go, yl⟩ := t2 _ (List.getElem?_eq_getElem hi)
    rw [List.drop_eq_getElem_cons hi] at w
    refine .inr ⟨go, fun σ2 H2 => C H2 ∧ ∃ S2, Nx σ S1 H1 σ2 S2 H2 ∧ Rel X.K H2 σ2 S2 ∧ forW g tb P (ds.drop (i + 1)) S2, fun σ2 H2 ⟨c2, S2, n2, r2, w2⟩ => ⟨m - 1, by omega, by omega, c2, S2, n2, r2, w2⟩, fun x H2 y => ?_⟩
    obtain ⟨sm, rp⟩ := yl x H2 y
    have c2 := cs (fun _ => False) _ _ (Step.of_same sm) c
    have nn : Nx σ S1 H1 σ' S' H2 := n.trans (.same sm)
    refine ⟨_, S', _, r.same sm, rp, w, fun σ3 H3 S3 _ n3 r3 q3 => ⟨S3, _, r3, q3, ⟨fun σ4 H4 S4 n4 r4 q4 => ⟨?_, S4, nn.trans (n3.trans n4), r4, q4⟩, fun v d σ4 H4 S4 n4 r4 p4 q4 => up1.rt v d σ4 H4 S4 (nn.trans (n3.trans n4)) r4 p4 q4,
      fun σ4 H4 S4 n4 r4 q4 => up1.nx σ4 H4 S4 (nn.trans (n3.trans n4)) r4 q4, fun σ4 H4 S4 n4 r4 q4 => ⟨?_, S4, nn.trans (n3.trans n4), r4, q4⟩, fun x c d σ4 H4 S4 n4 r4 p4 q4 => up1.ex x c d σ4 H4 S4 (nn.trans (n3.trans n4)) r4 p4 q4⟩⟩⟩
    · exact cs _ _ _ (n3.trans n4).st c2
    · exact cs _ _ _ (n3.trans n4).st c2
  · rw [List.drop_eq_nil_of_le (by omega)] at w
    exact .inl ⟨t1 (by omega), up1.nx σ' H' S' n r w⟩
/-! ### while -/
def pWhile (c : PTT) (tb : PTS) : PTS := fun P S => ∃ I : Nat → Sta → Prop, (∃ m, I m S) ∧ ∀ m S, I m S → c S (fun b S1 => if b = true then tb { P with nx := fun S2 => ∃ m', m' < m ∧ I m' S2, ct := fun S2 => ∃ m', m' < m ∧ I m' S2, bk := P.nx } S1 else P.nx S1) P.ex
theorem pms_while {c : Expr} {body : List Stmt} {tc : PTT} {tb : PTS} (hp : PassesOwn (model X.prog X.w) X.A X.env X.xe) (hc : PMT X c tc) (hb : PMSs X body tb) : PMS X (.While c body [] pos) (pWhile tc tb) := fun W tk => weakS (ps_while hp (hc W tk) (hb W tk)) fun D σ H => by
  rintro ⟨S, P, rel, ⟨I, ⟨m0, i0⟩, turn⟩, up⟩
  refine ⟨fun m σ' H' => ∃ S', Nx σ S H σ' S' H' ∧ Rel X.K H' σ' S' ∧ I m S', ⟨m0, S, .refl, rel, i0⟩, fun m σ' H' ⟨S', n, r, i⟩ => ?_⟩
  refine ⟨S', _, _, r, turn m S' i, fun b H1 S1 n1 r1 q1 => ?_, (up.thn n).ux⟩
  cases b with
  | true =>
    have q1 : tb { P with nx := fun S2 => ∃ m', m' < m ∧ I m' S2, ct := fun S2 => ∃ m', m' < m ∧ I m' S2, bk := P.nx } S1 := q1
    have nn := n.trans n1
    refine ⟨fun σ2 H2 => ∃ m', m' < m ∧ ∃ S2, Nx σ S H σ2 S2 H2 ∧ Rel X.K H2 σ2 S2 ∧ I m' S2, fun σ2 H2 h => h, S1, _, r1, q1, ⟨fun σ2 H2 S2 n2 r2 ⟨m', hm, q2⟩ => ⟨m', hm, S2, nn.trans n2, r2, q2⟩, fun v d σ2 H2 S2 n2 r2 p2 q2 => up.rt v d σ2 H2 S2 (nn.trans n2) r2 p2 q2,
      fun σ2 H2 S2 n2 r2 q2 => up.nx σ2 H2 S2 (nn.trans n2) r2 q2, fun σ2 H2 S2 n2 r2 ⟨m', hm, q2⟩ => ⟨m', hm, S2, nn.trans n2, r2, q2⟩, fun x c d σ2 H2 S2 n2 r2 p2 q2 => up.ex x c d σ2 H2 S2 (nn.trans n2) r2 p2 q2⟩⟩
  | false => exact up.nx _ _ _ (n.trans n1) r1 q1
end
end Pl
set_option Elab.async false
set_option linter.all false
set_option maxRecDepth 100000
set_option maxHeartbeats 4000000
/-! Pl, part 5: comprehensions -/
namespace Pl
open PySem PySem.Spec L2
open PyProof.Rows (envOfC)
def wipS (S : Sta) (vs : List Nat) : Sta := ⟨vs.foldr (fun v ρ => ρ.set v .emp) S.ρ, S.W⟩
theorem wipS_len (S : Sta) : ∀ vs : List Nat, (wipS S vs).ρ.length = S.ρ.length
  | [] => rfl
  | v :: vs => by
    show ((wipS S vs).ρ.set v .emp).length = _
    rw [List.length_set, wipS_len S vs]
theorem wipS_get (S : Sta) : ∀ (vs : List Nat) (j : Nat), (wipS S vs).ρ[j]? = if j ∈ vs then S.ρ[j]?.map (fun _ => .emp) else S.ρ[j]?
  | [], j => by simp [wipS]
  | v :: vs, j => by
    show ((wipS S vs).ρ.set v .emp)[j]? = _
    by_cases hj : v = j
    · subst hj
      by_cases hl : v < S.ρ.length
      · rw [List.getElem?_set_self (by rw [wipS_len]; exact hl), if_pos (by simp), List.getElem?_eq_getElem hl]; rfl
      · rw [List.getElem?_eq_none (by rw [List.length_set, wipS_len]; omega), if_pos (by simp), List.getElem?_eq_none (by omega)]; rfl
    · rw [List.getElem?_set_ne hj, wipS_get S vs j]
      have e : (j ∈ v :: vs) ↔ j ∈ vs := by simp [List.mem_cons, Ne.symm hj]
      by_cases hm : j ∈ vs
      · rw [if_pos hm, if_pos (e.mpr hm)]
      · rw [if_neg hm, if_neg (fun z => hm (e.mp z))]
theorem wipe_idem (σ : St) (vs : List Nat) : wipe (wipe σ vs) vs = wipe σ vs := List.ext_getElem? fun j => by
  rw [wipe_get, wipe_get]
  by_cases hj : j ∈ vs
  · rw [if_pos hj, if_pos hj, Option.map_map]; rfl
  · rw [if_neg hj, if_neg hj]
theorem wipS_idem (S : Sta) (vs : List Nat) : wipS (wipS S vs) vs = wipS S vs := by
  have e1 : (wipS (wipS S vs) vs).ρ = (wipS S vs).ρ := List.ext_getElem? fun j => by
    rw [wipS_get, wipS_get]
    by_cases hj : j ∈ vs
    · rw [if_pos hj, if_pos hj, Option.map_map]; rfl
    · rw [if_neg hj, if_neg hj]
  show (⟨(wipS (wipS S vs) vs).ρ, S.W⟩ : Sta) = ⟨(wipS S vs).ρ, S.W⟩
  rw [e1]
section
variable {K : PySem.W.Frag} {H : Hp} {σ τ : St} {S : Sta} {vs : List Nat}
theorem own_wip {i : Nat} {a : Addr} (h : OwnS σ (wipS S vs).ρ i a) : i ∉ vs ∧ OwnS σ S.ρ i a := by
  obtain ⟨⟨o, h1⟩, h2⟩ := h
  rw [wipS_get] at h1
  by_cases hm : i ∈ vs
  · rw [if_pos hm] at h1
    cases q : S.ρ[i]? with
    | none => rw [q] at h1; cases h1
    | some s => rw [q] at h1; cases h1
  · rw [if_neg hm] at h1
    exact ⟨hm, ⟨o, h1⟩, h2⟩
/-- the slots at vs forgotten on both sides: only the others count -/
theorem Rel.wip (r : Rel K H σ S) (e : wipe τ vs = wipe σ vs) : Rel K H τ (wipS S vs) ∧ ∀ a, Oa τ (wipS S vs) a → Oa σ S a := by
  have g : ∀ j : Nat, j ∉ vs → τ[j]? = σ[j]? := fun j hj => by
    have h := congrArg (fun l => l[j]?) e
    simp only [wipe_get, if_neg hj] at h
    exact h
  have bk : ∀ i a, OwnS τ (wipS S vs).ρ i a → OwnS σ S.ρ i a := fun i a h => by
    obtain ⟨hm, h1, h2⟩ := own_wip h
    exact ⟨h1, by rw [← g i hm]; exact h2⟩
  refine ⟨⟨?_, fun i s es => ?_, fun i j a h1 h2 => r.inj i j a (bk _ _ h1) (bk _ _ h2), r.wor, fun i a h => r.dis i a (bk _ _ h)⟩, fun a h => ?_⟩
  · rw [wipS_len, ← r.len]
    have h := congrArg List.length e
    rw [wipe_length, wipe_length] at h
    exact h
  · rw [wipS_get] at es
    by_cases hm : i ∈ vs
    · rw [if_pos hm] at es
      cases q : S.ρ[i]? with
      | none => rw [q] at es; cases es
      | some s' => rw [q] at es; cases es; trivial
    · rw [if_neg hm] at es
      rw [g i hm]
      exact r.slot i s es
  · rcases h with ⟨i, h⟩ | h
    · exact .inl ⟨i, bk _ _ h⟩
    · exact .inr h
end
def noX : PX := fun _ _ => False
def lcW (g : PTG) (tt : PTT) (te : PTE) (vs : List Nat) (Q : PQ) : List D → List D → Sta → Prop
  | [], acc, S => Q (.lst acc) S
  | d :: r, acc, S => g d S fun S2 => tt S2 (fun b S3 => if b = true then te S3 (fun y S4 => acc.length < sizeLine ∧ lcW g tt te vs Q r (acc ++ [y]) (wipS S4 vs)) noX else lcW g tt te vs Q r acc (wipS S3 vs)) noX
def pLc (ti : PTI) (g : PTG) (tt : PTT) (te : PTE) (vs : List Nat) : PTE := fun S Q E => ti S (fun ds S1 => lcW g tt te vs Q ds [] (wipS S1 vs)) E
def PMTs (X : Cx) (ifs : List Expr) (t : PTT) : Prop := ∀ W, Takes X W → PTs X ifs (lT X W t)
def pYes : PTT := fun S Q _ => Q true S
section
variable {X : Cx}
theorem pmts_nil : PMTs X [] pYes := fun W tk => ⟨fun pins s σ H Q I h => pts_nil.run pins s σ H Q I (by
  obtain ⟨S, Q', E', rel, q, up, _⟩ := h
  exact up _ _ _ .refl rel q)⟩
theorem pmts_one {c : Expr} {t : PTT} (h : PMT X c t) : PMTs X [c] t := fun W tk => pts_one (h W tk)
def fz (N : St → Hp → Prop) : St → Hp → Prop := fun σ H => N σ H ∨ ∃ a u, H a = some u ∧ ((∃ xs, u = .lst xs) ∨ ∃ kvs, u = .dK kvs) ∧ ∀ o, N σ (upd H a (.frz o u))
theorem ps_fz {st : Stmt} {t : TS} (h : L2.PS X st t) : L2.PS X st (fun D σ H => t { D with nx := fz D.nx } σ H) := by
  refine ⟨fun pins s σ H D I q => thn (h.run pins s σ H _ I q) fun f s' z => ?_⟩
  cases f with
  | next =>
    obtain ⟨σ', H', I', q | ⟨a, u, e, m, q⟩⟩ := z
    · exact ⟨σ', H', I', q⟩
    · obtain ⟨o, J⟩ := Inv.freeze I' e m
      exact ⟨_, _, J, q o⟩
  | brk => exact z
  | cont => exact z
  | ret u => exact z
variable {elt tg iter : Expr} {ifs : List Expr} {scope : Scope} {own : List (Str × Nat)} {pos : Pos} {ti : PTI} {g : PTG} {tt : PTT} {te : PTE}
theorem lc_core' {σ : St} {H : Hp} {S : Sta} {Q' : PQ} {E' : PX} {W : WX} {N : V → Hp → Prop} {vs : List Nat} {ta : TT} {tb : TE}
    (ea : ta = lT X (fun _ _ _ _ => False) tt) (eb : tb = lE X (fun _ _ _ _ => False) te)
    (rel : Rel X.K H σ S) (q : pLc ti g tt te vs S Q' E') (ux : UpX X.K σ S H W E')
    (fin : ∀ a acc o H' S', Nx σ S H σ S' (upd H' a (.frz o (.lst acc))) → Rel X.K (upd H' a (.frz o (.lst acc))) σ S' → H' a = some (.lst acc) → ∀ ds, Rep X.K (upd H' a (.frz o (.lst acc))) (.ref a) (.lst ds) → Q' (.lst ds) S' → N (.ref a) (upd H' a (.frz o (.lst acc)))) :
    tLc (lI X W ti) (lG X vs g) ta tb vs σ H (frz N) := by
  subst ea eb
  refine ⟨S, _, E', rel, q, fun J ds H1 S1 n1 r1 wk q1 => ?_, ux⟩
  intro Da hD
  obtain ⟨C, c1, cs, turn⟩ := wk
  have nD : ¬ Oa σ S1 Da := fun z => by
    obtain ⟨u, e, _⟩ := r1.known z
    rw [hD] at e; cases e
  have sm : Same H1 (upd H1 Da (.lst [])) := same_new hD
  obtain ⟨rw_, ow⟩ := (r1.same sm).wip (τ := wipe σ vs) (vs := vs) (wipe_idem σ vs)
  have upD : ∀ {A : Addr → Prop} {H' : Hp} {u : HO}, A Da → ¬ (∃ w, H' Da = some w ∧ Perm w) → Step A H' (upd H' Da u) := fun {A H' u} hA hp b w e z => by
    by_cases hb : b = Da
    · subst hb
      rcases z with z | z
      · exact absurd ⟨w, e, z⟩ hp
      · exact absurd hA z
    · rw [upd_ne hb]; exact e
  refine ⟨fun i m H' => i + m = ds.length ∧ C H' ∧ ∃ S' acc accD, Step (Oa σ S1) H1 H' ∧ (∀ b, H' b = none → H1 b = none) ∧ (∀ a, Oa (wipe σ vs) S' a → Oa σ S1 a ∨ (H1 a = none ∧ a ≠ Da)) ∧ Rel X.K H' (wipe σ vs) S' ∧ H' Da = some (.lst acc) ∧ RepAll X.K H' acc accD ∧ S' = wipS S' vs ∧ lcW g tt te vs Q' (ds.drop i) accD S',
    ⟨ds.length, by omega, cs (fun _ => False) _ _ (Step.of_same sm) c1, _, [], [], Step.of_same sm, same_kn sm, fun a h => .inl (ow a h), rw_, upd_same, .nil, ?_, q1⟩, fun i m H' h => ?_⟩
  · exact (wipS_idem S1 vs).symm
  obtain ⟨em, c, S', acc, accD, st, kn, oa, r, hacc, racc, ew, w⟩ := h
  have nD' : ¬ Oa (wipe σ vs) S' Da := fun z => by
    rcases oa Da z with z | ⟨_, z⟩
    · exact nD z
    · exact z rfl
  obtain ⟨t1, t2⟩ := turn i H' c
  by_cases hi : i < ds.length
  · obtain ⟨go, yl⟩ := t2 _ (List.getElem?_eq_getElem hi)
    rw [List.drop_eq_getElem_cons hi] at w
    refine .inr ⟨go, fun H2 => C H2 ∧ ∃ S2 acc2 accD2, Step (Oa σ S1) H1 H2 ∧ (∀ b, H2 b = none → H1 b = none) ∧ (∀ a, Oa (wipe σ vs) S2 a → Oa σ S1 a ∨ (H1 a = none ∧ a ≠ Da)) ∧ Rel X.K H2 (wipe σ vs) S2 ∧ H2 Da = some (.lst acc2) ∧ RepAll X.K H2 acc2 accD2 ∧ S2 = wipS S2 vs ∧ lcW g tt te vs Q' (ds.drop (i + 1)) accD2 S2,
      fun H2 ⟨c2, h2⟩ => ⟨m - 1, by omega, by omega, c2, h2⟩, fun x H2 y => ?_⟩
    obtain ⟨sm2, rp⟩ := yl x H2 y
    -- the same facts at the item's heap, and behind any step of ours
    have after : ∀ {σ3 H3 S3}, wipe σ3 vs = wipe σ vs → Nx (wipe σ vs) S' H2 σ3 S3 H3 → Rel X.K H3 σ3 S3 → C H3 ∧ Step (Oa σ S1) H1 H3 ∧ (∀ b, H3 b = none → H1 b = none) ∧ (∀ a, Oa (wipe σ vs) (wipS S3 vs) a → Oa σ S1 a ∨ (H1 a = none ∧ a ≠ Da)) ∧
        Rel X.K H3 (wipe σ vs) (wipS S3 vs) ∧ H3 Da = some (.lst acc) ∧ RepAll X.K H3 acc accD ∧ ¬ Oa (wipe σ vs) (wipS S3 vs) Da := fun {σ3 H3 S3} e3 n3 r3 => by
      have h2D : H2 Da = some (.lst acc) := sm2 _ _ hacc
      have hww : wipe (wipe σ vs) vs = wipe σ3 vs := by rw [e3, wipe_idem]
      obtain ⟨r3', o3⟩ := r3.wip (τ := wipe σ vs) (vs := vs) hww
      have oo : ∀ a, Oa (wipe σ vs) (wipS S3 vs) a → Oa σ S1 a ∨ (H1 a = none ∧ a ≠ Da) := fun a h => by
        rcases n3.oa a (o3 a h) with z | z
        · exact oa a z
        · refine .inr ⟨kn a ?_, fun e => ?_⟩
          · cases q : H' a with
            | none => rfl
            | some o => rw [sm2 a o q] at z; cases z
          · subst e; rw [h2D] at z; cases z
      refine ⟨cs _ _ _ n3.st (cs (fun _ => False) _ _ (Step.of_same sm2) c), fun b o e z => ?_, fun b h => kn b (same_kn sm2 b (n3.kn b h)), oo, r3', n3.st _ _ h2D (.inr nD'), (racc.step (Step.of_same (A := fun _ => False) sm2)).nx n3, fun z => ?_⟩
      · have e1 := sm2 _ _ (st b o e z)
        refine n3.st b o e1 (z.imp id fun n y => ?_)
        rcases oa b y with y | ⟨y, _⟩
        · exact n y
        · rw [e] at y; cases y
      · rcases oo Da z with z | ⟨_, z⟩
        · exact nD z
        · exact z rfl
    refine ⟨_, S', _, r.same sm2, rp, w, fun σ3 H3 S3 e3 n3 r3 q3 => ?_⟩
    rw [wipe_idem] at e3
    refine ⟨e3, ?_⟩
    refine ⟨S3, _, noX, r3, q3, fun b H4 S4 n4 r4 q4 => ?_, fun _ _ _ _ _ _ _ _ z => z.elim⟩
    cases b with
    | true =>
      refine ⟨S4, _, noX, r4, q4, fun v d H5 S5 n5 r5 p5 q5 => ?_, fun _ _ _ _ _ _ _ _ z => z.elim⟩
      obtain ⟨c5, st5, kn5, oa5, r5', hD5, ra5, nD5⟩ := after e3 ((n3.trans n4).trans n5) r5
      have sD : Step (fun b => b = Da) H5 (upd H5 Da (.lst (acc ++ [v]))) := upD rfl (by
        rintro ⟨w, e, p⟩
        rw [hD5] at e; cases e; exact p)
      refine ⟨acc, hD5, by rw [ra5.length]; exact q5.1, cs _ _ _ sD c5, wipS S5 vs, acc ++ [v], accD ++ [d], fun b o e z => ?_, fun b h => ?_, oa5, r5'.step sD fun a h e => nD5 (by rw [← show a = Da from e]; exact h), upd_same, (ra5.step sD).append (.cons (p5.step sD) .nil), (wipS_idem S5 vs).symm, q5.2⟩
      · rw [upd_ne (ne_of_none e hD)]; exact st5 b o e z
      · by_cases hb : b = Da
        · subst hb; exact hD
        · rw [upd_ne hb] at h; exact kn5 b h
    | false =>
      obtain ⟨c5, st5, kn5, oa5, r5', hD5, ra5, nD5⟩ := after e3 (n3.trans n4) r4
      exact ⟨c5, _, acc, accD, st5, kn5, oa5, r5', hD5, ra5, (wipS_idem S4 vs).symm, q4⟩
  · rw [List.drop_eq_nil_of_le (by omega)] at w
    refine .inl ⟨t1 (by omega), .inr ⟨Da, _, rfl, hacc, .inl ⟨_, rfl⟩, fun o => ?_⟩⟩
    obtain ⟨rb, ob⟩ := r.wip (τ := σ) (vs := vs) (wipe_idem σ vs).symm
    rw [← ew] at rb ob
    have sD : Step (fun b => b = Da) H' (upd H' Da (.frz o (.lst acc))) := upD rfl (by
      rintro ⟨w, e, p⟩
      rw [hacc] at e; cases e; exact p)
    have rr : Rel X.K (upd H' Da (.frz o (.lst acc))) σ S' := rb.step sD fun a h e => nD' (by rw [← show a = Da from e]; exact ob a h)
    refine fin Da acc o H' S' (n1.trans ⟨fun b u e z => ?_, fun b h => ?_, fun a h => ?_⟩) rr hacc accD (.lst (.inl ⟨o, upd_same⟩) (racc.step sD)) w
    · rw [upd_ne (ne_of_none e hD)]; exact st b u e z
    · by_cases hb : b = Da
      · subst hb; exact hD
      · rw [upd_ne hb] at h; exact kn b h
    · exact (oa a (ob a h)).imp id fun z => z.1
/-- [elt for tg in iter if ..] -/
theorem pm_lc (hc : X.calm = true) (hN : X.N.Nodup) (hi : PMI X tg iter ti) (ok : BlkOk X.N X.env.scope scope own)
    (hg : ∀ (s : Shared) (H : Hp) (C : Addr) (cl : List (Str × Addr)) (fp : List Addr), PMG (X.blk s H scope (compEnvC scope cl C X.env) fp) (own.map (·.2)) tg g)
    (ht : ∀ (s : Shared) (H : Hp) (C : Addr) (cl : List (Str × Addr)) (fp : List Addr), PMTs (X.blk s H scope (compEnvC scope cl C X.env) fp) ifs tt)
    (he : ∀ (s : Shared) (H : Hp) (C : Addr) (cl : List (Str × Addr)) (fp : List Addr), PM (X.blk s H scope (compEnvC scope cl C X.env) fp) elt te) (hs : ∀ x, foldedSetIterable iter X.env x = pure x := by intro _; rfl) :
    PM X (.ListComp elt [⟨tg, iter, ifs, 0⟩] scope pos) (pLc ti g tt te (own.map (·.2))) := fun W tk => weakE (pe_frz (pe_lc (g := lG X (List.map (fun p : Str × Nat => p.2) own) g) (tt := lT X (fun _ _ _ _ => False) tt) (te := lE X (fun _ _ _ _ => False) te) hc hN (hi W tk) ok hg (fun s H C cl fp => ht s H C cl fp (fun _ _ _ _ => False) takes0) (fun s H C cl fp => he s H C cl fp (fun _ _ _ _ => False) takes0) hs)) fun σ H Q => by
  rintro ⟨S, Q', E', rel, q, up, ux⟩
  exact lc_core' rfl rfl rel q ux fun a acc o H' S' n r _ ds rp q' => up _ _ _ _ n r rp q'
/-- y = [..] on one line -/
theorem pms_setLc {i : Nat} {y : Str} {py spos : Pos} (hc : X.calm = true) (hN : X.N.Nodup) (hy : X.N[i]? = some y) (hyl : X.env.scope.names.lookup y = some .local)
    (hsw : swapsWith (.ListComp elt [⟨tg, iter, ifs, 0⟩] scope pos) (some (.Name y py)) spos.line X.env = pure true) (hi : PMI X tg iter ti) (ok : BlkOk X.N X.env.scope scope own)
    (hg : ∀ (s : Shared) (H : Hp) (C : Addr) (cl : List (Str × Addr)) (fp : List Addr), PMG (X.blk s H scope (compEnvC scope cl C X.env) fp) (own.map (·.2)) tg g)
    (ht : ∀ (s : Shared) (H : Hp) (C : Addr) (cl : List (Str × Addr)) (fp : List Addr), PMTs (X.blk s H scope (compEnvC scope cl C X.env) fp) ifs tt)
    (he : ∀ (s : Shared) (H : Hp) (C : Addr) (cl : List (Str × Addr)) (fp : List Addr), PM (X.blk s H scope (compEnvC scope cl C X.env) fp) elt te) (hs : ∀ x, foldedSetIterable iter X.env x = pure x := by intro _; rfl) :
    PMS X (.Assign [.Name y py] (.ListComp elt [⟨tg, iter, ifs, 0⟩] scope pos) spos) (pSet i (pLc ti g tt te (own.map (·.2)))) := fun W tk =>
  weakS (ps_fz (ps_setLc (i := i) (g := lG X (List.map (fun p : Str × Nat => p.2) own) g) (tt := lT X (fun _ _ _ _ => False) tt) (te := lE X (fun _ _ _ _ => False) te) hc hN hy hyl hsw (hi W tk) ok hg (fun s H C cl fp => ht s H C cl fp (fun _ _ _ _ => False) takes0) (fun s H C cl fp => he s H C cl fp (fun _ _ _ _ => False) takes0) hs)) fun D σ H => by
  rintro ⟨S, P, rel, q, up⟩
  show tLc (lI X W ti) (lG X (List.map (fun p : Str × Nat => p.2) own) g) (lT X (fun _ _ _ _ => False) tt) (lE X (fun _ _ _ _ => False) te) (own.map (·.2)) σ H (fun x H1 => fz D.nx (σ.set i (some x)) H1)
  have h := lc_core' (N := fun x H1 => D.nx (σ.set i (some x)) H1) (W := W) rfl rfl rel q up.ux fun a acc o H' S' n r _ ds rp q' => by
    obtain ⟨nx, r'⟩ := r.put (i := i) rp
    exact up.nx _ _ _ (n.trans nx) r' q'
  obtain ⟨S0, Q0, E0, h1, h2, h3, h4⟩ := h
  refine ⟨S0, Q0, E0, h1, h2, fun J ds H' S' n r wk q => ?_, h4⟩
  have h5 := h3 J ds H' S' n r wk q
  intro Da hD
  obtain ⟨W1, h6, h7⟩ := h5 Da hD
  refine ⟨W1, h6, fun i m H w => (h7 i m H w).imp (fun ⟨a, b⟩ => ⟨a, ?_⟩) id⟩
  rcases b with b | ⟨c, u, e1, e2, e3, e4⟩
  · exact .inl b
  · cases e1
    exact .inr ⟨_, u, e2, e3, e4⟩
end
end Pl
set_option Elab.async false
set_option linter.all false
set_option maxRecDepth 100000
set_option maxHeartbeats 4000000
/-! Pl, part 6: operators and built-ins over data -/
namespace Pl
open PySem PySem.Spec L2
open PyProof.Rows (envOfC)
/-! ### == of data -/
mutual
def D.py : D → PyData
  | .non => .none
  | .bl b => .bool b
  | .int i => .int i
  | .str x => .str x
  | .tup xs => .tuple (D.pys xs)
  | .lst xs => .list (D.pys xs)
  | .dct _ _ => .none
  | .adr _ => .none
  | .ty _ => .none
def D.pys : List D → List PyData
  | [] => []
  | x :: r => x.py :: D.pys r
end
mutual
/-- built of None, bools, numbers, texts, tuples, lists -/
def D.plain : D → Bool
  | .non => true
  | .bl _ => true
  | .int _ => true
  | .str x => PyData.strOk x
  | .tup xs => D.plains xs
  | .lst xs => D.plains xs
  | .dct _ _ => false
  | .adr _ => false
  | .ty _ => false
def D.plains : List D → Bool
  | [] => true
  | x :: r => x.plain && D.plains r
end
mutual
def D.dep : D → Nat
  | .tup xs => D.deps xs + 1
  | .lst xs => D.deps xs + 1
  | .non => 0
  | .bl _ => 0
  | .int _ => 0
  | .str _ => 0
  | .dct _ _ => 0
  | .adr _ => 0
  | .ty _ => 0
def D.deps : List D → Nat
  | [] => 0
  | x :: r => max x.dep (D.deps r)
end
/-- what == can be asked of -/
def D.good (d : D) : Bool := d.plain && decide (d.dep ≤ 60)
def eqD (d e : D) : Bool := PyData.eqv d.py e.py
mutual
theorem py_lay : ∀ d : D, d.plain = true → d.py.canLay0 = true
  | .non, _ => by simp [D.py, PyData.canLay0]
  | .bl b, _ => by simp [D.py, PyData.canLay0]
  | .int i, _ => by simp [D.py, PyData.canLay0]
  | .str x, h => by simpa [D.py, PyData.canLay0, D.plain] using h
  | .tup xs, h => by
    simp only [D.py, PyData.canLay0]
    exact pys_lay xs (by simpa [D.plain] using h)
  | .lst xs, h => by
    simp only [D.py, PyData.canLay0]
    exact pys_lay xs (by simpa [D.plain] using h)
  | .dct _ _, h => by simp [D.plain] at h
  | .adr _, h => by simp [D.plain] at h
  | .ty _, h => by simp [D.plain] at h
theorem pys_lay : ∀ ds : List D, D.plains ds = true → PyData.canLayAll0 (D.pys ds) = true
  | [], _ => by simp [D.pys, PyData.canLayAll0]
  | d :: r, h => by
    simp only [D.plains, Bool.and_eq_true] at h
    simp only [D.pys, PyData.canLayAll0, Bool.and_eq_true]
    exact ⟨py_lay d h.1, pys_lay r h.2⟩
end
mutual
theorem py_dep : ∀ d : D, d.py.depth ≤ d.dep
  | .non => by simp [D.py, PyData.depth]
  | .bl b => by simp [D.py, PyData.depth]
  | .int i => by simp [D.py, PyData.depth]
  | .str x => by simp [D.py, PyData.depth]
  | .tup xs => by
    simp only [D.py, PyData.depth, D.dep]
    exact Nat.succ_le_succ (pys_dep xs)
  | .lst xs => by
    simp only [D.py, PyData.depth, D.dep]
    exact Nat.succ_le_succ (pys_dep xs)
  | .dct _ _ => by simp [D.py, PyData.depth]
  | .adr _ => by simp [D.py, PyData.depth]
  | .ty _ => by simp [D.py, PyData.depth]
theorem pys_dep : ∀ ds : List D, PyData.depthAll (D.pys ds) ≤ D.deps ds
  | [] => by simp [D.pys, PyData.depthAll]
  | d :: r => by
    simp only [D.pys, PyData.depthAll, D.deps]
    have h1 := py_dep d
    have h2 := pys_dep r
    omega
end
theorem D.pys_map (xs : List D) : D.pys xs = xs.map D.py := by
  induction xs with
  | nil => rfl
  | cons x r ih => simp only [D.pys, List.map_cons, ih]
theorem good_shaped {d : D} (h : d.good = true) : SeqAt.shaped d.py = true := by
  simp only [D.good, Bool.and_eq_true, decide_eq_true_eq] at h
  simp only [SeqAt.shaped, Bool.and_eq_true, decide_eq_true_eq]
  exact ⟨py_lay d h.1, Nat.le_trans (py_dep d) (by omega)⟩
section
variable {K : PySem.W.Frag} {H : Hp}
mutual
theorem Rep.dp : ∀ (d : D) {v : V}, d.plain = true → Rep K H v d → Dp K H v d.py
  | .non, _, _, h => by cases h; simp only [D.py]; exact .non
  | .bl b, _, _, h => by cases h; simp only [D.py]; exact .bl b
  | .int i, _, _, h => by cases h; simp only [D.py]; exact .int i
  | .str x, _, _, h => by cases h; simp only [D.py]; exact .str x
  | .tup xs, _, p, h => by
    cases h with
    | tup hs ha => simp only [D.py]; exact .tup hs (RepAll.dp xs (by simpa [D.plain] using p) ha)
  | .lst xs, _, p, h => by
    cases h with
    | lst hs ha => simp only [D.py]; exact .lst hs.sq (RepAll.dp xs (by simpa [D.plain] using p) ha)
  | .dct _ _, _, p, _ => by simp [D.plain] at p
  | .adr _, _, p, _ => by simp [D.plain] at p
  | .ty _, _, p, _ => by simp [D.plain] at p
theorem RepAll.dp : ∀ (ds : List D) {vs : List V}, D.plains ds = true → RepAll K H vs ds → DpAll K H vs (D.pys ds)
  | [], _, _, h => by cases h; exact .nil
  | d :: r, _, p, h => by
    simp only [D.plains, Bool.and_eq_true] at p
    cases h with
    | cons h1 h2 => exact .cons (Rep.dp d p.1 h1) (RepAll.dp r p.2 h2)
end
end
theorem good_plain {d : D} (h : d.good = true) : d.plain = true := by
  simp only [D.good, Bool.and_eq_true] at h; exact h.1
section
variable {X : Cx}
theorem OpR_or {f : Value → Value → Sem Value} {r r' : R2} (h : OpR X f r) (h' : OpR X f r') : OpR X f (fun x y H Q => r x y H Q ∨ r' x y H Q) := by
  intro pins s σ H x y v u Q I rx ry q
  rcases q with q | q
  · exact h pins s σ H x y v u Q I rx ry q
  · exact h' pins s σ H x y v u Q I rx ry q
theorem OpR_frz {f : Value → Value → Sem Value} {r : R2} (h : OpR X f r) : OpR X f (fun x y H Q => r x y H (frz Q)) := fun pins s σ H x y v u Q I rx ry q => thn (h pins s σ H x y v u _ I rx ry q) fun _ _ z => ep_frz z
theorem CallR_frz {f : Value} {r : List V → Hp → VK → Prop} (h : CallR X f r) : CallR X f (fun xs H Q => r xs H (frz Q)) := fun pins s σ H x v Q I rx q => thn (h pins s σ H x v _ I rx q) fun _ _ z => ep_frz z
theorem MtR_frz {id : String} {r : V → List V → Hp → VK → Prop} (h : MtR X id r) : MtR X id (fun x xs H Q => r x xs H (frz Q)) := fun pins s σ H x xs v us Q I rx rs q => thn (h pins s σ H x xs v us _ I rx rs q) fun _ _ z => ep_frz z
theorem SlR_frz {r : V → Option Int → Option Int → Hp → VK → Prop} (h : SlR X r) : SlR X (fun x lo hi H Q => r x lo hi H (frz Q)) := fun pins s σ H x v vl vu lo hi sl Q I rx hs pl pu q => by
  obtain ⟨T, id, h1, h2, h3⟩ := h pins s σ H x v vl vu lo hi sl _ I rx hs pl pu q
  exact ⟨T, id, h1, h2, thn h3 fun _ _ z => ep_frz z⟩
/-- a new list at p, frozen -/
theorem Fin.newL {K : PySem.W.Frag} {H : Hp} {Q : VK} {Q' : D → Prop} {p : Addr} {xs : List V} {ds : List D} (f : Fin K H Q Q') (hp : H p = none) (r : RepAll K H xs ds) (q : Q' (.lst ds)) : frz Q (.ref p) (upd H p (.lst xs)) := by
  refine .inr ⟨p, _, rfl, upd_same, .inl ⟨_, rfl⟩, fun o => ?_⟩
  have s : Same H (upd (upd H p (.lst xs)) p (.frz o (.lst xs))) := same_frz hp
  exact f _ _ _ s (.lst (.inl ⟨o, upd_same⟩) (r.step (A := fun _ => False) (Step.of_same s))) q
theorem Fin.newT {K : PySem.W.Frag} {H : Hp} {Q : VK} {Q' : D → Prop} {p : Addr} {xs : List V} {ds : List D} (f : Fin K H Q Q') (hp : H p = none) (r : RepAll K H xs ds) (q : Q' (.tup ds)) : Q (.ref p) (upd H p (.tup xs)) := by
  have s : Same H (upd H p (.tup xs)) := same_new hp
  exact f _ _ _ s (.tup (.of upd_same) (r.step (A := fun _ => False) (Step.of_same s))) q
theorem Fin.at {K : PySem.W.Frag} {H : Hp} {Q : VK} {Q' : D → Prop} {v : V} {d : D} (f : Fin K H Q Q') (r : Rep K H v d) (q : Q' d) : Q v H := f _ _ _ (Same.refl _) r q
/-! ### arithmetic -/
def oAdd : Op2 := fun x y Q => match x, y with
  | .int i, .int j => Q (.int (i + j))
  | .str x, .str y => x.length + y.length ≤ sizeLine ∧ Q (.str (x ++ y))
  | .tup xs, .tup ys => xs.length + ys.length ≤ sizeLine ∧ Q (.tup (xs ++ ys))
  | .lst xs, .lst ys => xs.length + ys.length ≤ sizeLine ∧ Q (.lst (xs ++ ys))
  | _, _ => False
/-- list + list, lists that are read -/
def rCatL (K : PySem.W.Frag) : R2 := fun x y H Q => ∃ l b xs zs, x = .ref l ∧ y = .ref b ∧ SqL K H l xs ∧ SqL K H b zs ∧ xs.length + zs.length ≤ sizeLine ∧ ∀ p, H p = none → Q (.ref p) (upd H p (.lst (xs ++ zs)))
theorem op_catL : OpR X (binaryOp .Add) (rCatL X.K) := by
  intro pins s σ H x y v u Q I rx ry h
  obtain ⟨l, b, xs, zs, rfl, rfl, hl, hb, hz, q⟩ := h
  cases rx
  cases ry
  obtain ⟨its, r1, pl, _⟩ := I.list hl
  obtain ⟨its2, r2, pb, _⟩ := I.list hb
  obtain ⟨⟨cls, dd, data, sl⟩, n, ho, hc, _, hd⟩ := pl
  obtain ⟨⟨cls2, dd2, data2, sl2⟩, n2, ho2, hc2, _, hd2⟩ := pb
  simp only at hc hd hc2 hd2
  subst hc hd hc2 hd2
  have e : its.toArray ++ its2.toArray = (its ++ its2).toArray := by simp
  refine concat_meets ⟨_, ho, rfl⟩ ⟨_, ho2, rfl⟩ noFill_list_add seq_list_add PySem.F.slot_list_add PySem.F.entry_list_add (PySem.F.args_list_add_2 _ _) (PyProof.Rows.list_addW l b its.toArray its2.toArray n n2 dd dd2 sl sl2 (by rw [List.size_toArray, List.size_toArray, ← r1.length, ← r2.length]; exact hz)) ⟨ho, ho2, ?_⟩
  rw [e]
  exact ⟨.ref _, _, I.laid (t' := s.toks) (o := .lst (xs ++ zs)) (fun b ob q => Heap.get?_push_of_some _ q) (Nat.le_refl _) ⟨by rw [List.length_append]; exact hz, _, 0, r1.append r2, Heap.get?_push_size _ rfl⟩, rfl, q _ (I.hok.fresh (Nat.le_refl _))⟩
theorem od_add : OpD X (binaryOp .Add) oAdd := by
  refine ⟨_, OpR_or op_add (OpR_or op_add_str (OpR_or op_catA (OpR_frz op_catL))), fun H x y d e Q Q' rx ry o f => ?_⟩
  unfold oAdd at o
  split at o
  · cases rx; cases ry; exact .inl ⟨_, _, rfl, rfl, f.at (.int _) o⟩
  · cases rx; cases ry; exact .inr (.inl ⟨_, _, rfl, rfl, o.1, f.at (.str _) o.2⟩)
  · rename_i xs ys
    cases rx with
    | tup h1 r1 =>
    cases ry with
    | tup h2 r2 =>
    rename_i a vs b ws
    refine .inr (.inr (.inl ⟨a, b, vs, ws, rfl, rfl, h1, h2, by rw [r1.length, r2.length]; exact o.1, fun e => ?_, fun _ e => ?_, fun _ _ p hp => ?_⟩))
    · subst e; cases r1; exact f.at (.tup h2 r2) o.2
    · subst e; cases r2; rw [List.append_nil] at o; exact f.at (.tup h1 r1) o.2
    · exact f.newT hp (r1.append r2) o.2
  · cases rx with
    | lst h1 r1 =>
    cases ry with
    | lst h2 r2 => exact .inr (.inr (.inr ⟨_, _, _, _, rfl, rfl, h1.sq, h2.sq, by rw [r1.length, r2.length]; exact o.1, fun p hp => f.newL hp (r1.append r2) o.2⟩))
  · exact o.elim
def oInt (C : Int → Int → Prop) (g : Int → Int → Int) : Op2 := fun x y Q => match x, y with
  | .int i, .int j => C i j ∧ Q (.int (g i j))
  | _, _ => False
def oCmp (g : Int → Int → Bool) : Op2 := fun x y Q => match x, y with
  | .int i, .int j => Q (.bl (g i j))
  | _, _ => False
theorem od_int {f : Value → Value → Sem Value} {C : Int → Int → Prop} {g : Int → Int → Int} (h : OpR X f (rI C fun i j => .int (g i j))) : OpD X f (oInt C g) := by
  refine ⟨_, h, fun H x y d e Q Q' rx ry o f => ?_⟩
  unfold oInt at o
  split at o
  · cases rx; cases ry; exact ⟨_, _, rfl, rfl, o.1, f.at (.int _) o.2⟩
  · exact o.elim
theorem od_int0 {f : Value → Value → Sem Value} {g : Int → Int → Int} (h : OpR X f (rI0 fun i j => .int (g i j))) : OpD X f (oInt (fun _ _ => True) g) := by
  refine ⟨_, h, fun H x y d e Q Q' rx ry o f => ?_⟩
  unfold oInt at o
  split at o
  · cases rx; cases ry; exact ⟨_, _, rfl, rfl, f.at (.int _) o.2⟩
  · exact o.elim
theorem od_cmp {f : Value → Value → Sem Value} {g : Int → Int → Bool} (h : OpR X f (rI0 fun i j => .bl (g i j))) : OpD X f (oCmp g) := by
  refine ⟨_, h, fun H x y d e Q Q' rx ry o f => ?_⟩
  unfold oCmp at o
  split at o
  · cases rx; cases ry; exact ⟨_, _, rfl, rfl, f.at (.bl _) o⟩
  · exact o.elim
theorem od_sub : OpD X (binaryOp .Sub) (oInt (fun _ _ => True) fun i j => i - j) := od_int0 op_sub
theorem od_pow : OpD X (binaryOp .Pow) (oInt CPow fun i j => i ^ j.toNat) := od_int op_pow
def CDv (_ j : Int) : Prop := 0 < j ∧ j < 2 ^ 200
theorem CDv.w {i j : Int} (h : CDv i j) : CDivW i j := wide_div (b := 200) h.1 (by have := h.1; have := h.2; omega) (by decide) (by decide)
theorem op_fdivV : OpR X (binaryOp .FloorDiv) (rI CDv fun i j => .int (i / j)) := fun pins s σ H x y v u Q I rx ry h => by
  obtain ⟨i, j, e1, e2, hc, q⟩ := h
  exact op_fdivW pins s σ H x y v u Q I rx ry ⟨i, j, e1, e2, hc.w, q⟩
theorem od_fdiv : OpD X (binaryOp .FloorDiv) (oInt CDv fun i j => i / j) := od_int op_fdivV
theorem od_mod : OpD X (binaryOp .Mod) (oInt (fun _ j => 0 < j) fun i j => i % j) := od_int op_mod
/-- a product; a list, a tuple times an int: elsewhere -/
theorem od_mul : OpD X (binaryOp .Mult) (oInt CMul fun i j => i * j) := od_int op_mul
theorem od_lt : OpD X (compareOp .Lt) (oCmp fun i j => decide (i < j)) := od_cmp op_lt
theorem od_le : OpD X (compareOp .LtE) (oCmp fun i j => decide (i ≤ j)) := od_cmp op_le
theorem od_gt : OpD X (compareOp .Gt) (oCmp fun i j => decide (j < i)) := od_cmp op_gt
theorem od_ge : OpD X (compareOp .GtE) (oCmp fun i j => decide (j ≤ i)) := od_cmp op_ge
def oNeg : D → (D → Prop) → Prop := fun x Q => match x with
  | .int i => Q (.int (-i))
  | _ => False
theorem ud_neg : UnD X (unaryOp .USub) oNeg := by
  refine ⟨_, un_neg, fun H x d Q Q' rx o f => ?_⟩
  unfold oNeg at o
  split at o
  · cases rx; exact ⟨_, rfl, f.at (.int _) o⟩
  · exact o.elim
/-! ### ==, in, is None -/
def oEq : Op2 := fun x y Q => x.good = true ∧ y.good = true ∧ Q (.bl (eqD x y))
def oNe : Op2 := fun x y Q => x.good = true ∧ y.good = true ∧ Q (.bl (!eqD x y))
theorem od_eq (hu : X.A.units + 64 < cLine) : OpD X (compareOp .Eq) oEq := ⟨_, op_eqD hu, fun H x y d e Q Q' rx ry ⟨g1, g2, o⟩ f =>
  ⟨d.py, e.py, Rep.dp d (good_plain g1) rx, Rep.dp e (good_plain g2) ry, good_shaped g1, good_shaped g2, f.at (.bl _) o⟩⟩
theorem od_ne (hu : X.A.units + 64 < cLine) : OpD X (compareOp .NotEq) oNe := ⟨_, op_neD hu, fun H x y d e Q Q' rx ry ⟨g1, g2, o⟩ f =>
  ⟨d.py, e.py, Rep.dp d (good_plain g1) rx, Rep.dp e (good_plain g2) ry, good_shaped g1, good_shaped g2, f.at (.bl _) o⟩⟩
def rInT (K : PySem.W.Frag) (neg : Bool) : R2 := fun x y H Q => ∃ d ds, Dp K H x d ∧ Dp K H y (.tuple ds) ∧ SeqAt.shaped d = true ∧ SeqAt.shaped (.tuple ds) = true ∧ Q (.bl (if neg then !(ds.any fun z => PyData.eqv z d) else ds.any fun z => PyData.eqv z d)) H
theorem room_in_t {A : Around} {d : PyData} {ds : List PyData} (h : SeqAt.shaped d = true) (hu : A.units + 65 < cLine) : A.units + 1 + min (PyData.depthAll ds) d.depth < cLine := by
  have h1 := SeqAt.depth_of_shaped h
  have h2 : min (PyData.depthAll ds) d.depth ≤ d.depth := Nat.min_le_right _ _
  omega
theorem op_inT (hu : X.A.units + 65 < cLine) : OpR X (compareOp .In) (rInT X.K false) := by
  intro pins s σ H x y v u Q I rx ry h
  obtain ⟨d, ds, hd, he, sd, se, q⟩ := h
  obtain ⟨as, r1⟩ := Dp.reads I d x v hd rx
  obtain ⟨bs, r2⟩ := Dp.reads I (.tuple ds) y u he ry
  exact SeqAt.in_tuple_reads r2 r1 (SeqAt.canLay_of_shaped se) (SeqAt.canLay_of_shaped sd) (room_in_t sd hu) ⟨.bl _, H, I, rfl, q⟩
theorem op_notInT (hu : X.A.units + 65 < cLine) : OpR X (compareOp .NotIn) (rInT X.K true) := by
  intro pins s σ H x y v u Q I rx ry h
  obtain ⟨d, ds, hd, he, sd, se, q⟩ := h
  obtain ⟨as, r1⟩ := Dp.reads I d x v hd rx
  obtain ⟨bs, r2⟩ := Dp.reads I (.tuple ds) y u he ry
  exact SeqAt.notIn_tuple_reads r2 r1 (SeqAt.canLay_of_shaped se) (SeqAt.canLay_of_shaped sd) (room_in_t sd hu) ⟨.bl _, H, I, rfl, q⟩
def oIn (neg : Bool) : Op2 := fun x y Q => match y with
  | .tup ys => x.good = true ∧ D.good (.tup ys) = true ∧ Q (.bl (if neg then !(ys.any fun z => eqD z x) else ys.any fun z => eqD z x))
  | .lst ys => x.good = true ∧ D.good (.lst ys) = true ∧ Q (.bl (if neg then !(ys.any fun z => eqD z x) else ys.any fun z => eqD z x))
  | .str t => match x with
    | .str w => Q (.bl (if neg then !(!(Builtin.Str.occurrences t w 0 t.length 1).isEmpty) else !(Builtin.Str.occurrences t w 0 t.length 1).isEmpty))
    | _ => False
  | _ => False
theorem any_pys (ys : List D) (x : D) : ((D.pys ys).any fun z => PyData.eqv z x.py) = ys.any fun z => eqD z x := by
  rw [D.pys_map, List.any_map]; rfl
theorem od_in (hu : X.A.units + 65 < cLine) : OpD X (compareOp .In) (oIn false) := by
  refine ⟨_, OpR_or (op_inT hu) (OpR_or (op_inD hu) op_in_str), fun H x y d e Q Q' rx ry o f => ?_⟩
  unfold oIn at o
  split at o
  · rename_i ys
    obtain ⟨g1, g2, o⟩ := o
    have h := Rep.dp _ (good_plain g2) ry
    have s2 := good_shaped g2
    simp only [D.py] at h s2
    exact .inl ⟨d.py, D.pys ys, Rep.dp d (good_plain g1) rx, h, good_shaped g1, s2, f.at (by simp only [any_pys]; exact .bl _) o⟩
  · rename_i ys
    obtain ⟨g1, g2, o⟩ := o
    have h := Rep.dp _ (good_plain g2) ry
    have s2 := good_shaped g2
    simp only [D.py] at h s2
    exact .inr (.inl ⟨d.py, D.pys ys, Rep.dp d (good_plain g1) rx, h, good_shaped g1, s2, f.at (by simp only [any_pys]; exact .bl _) o⟩)
  · split at o
    · cases rx; cases ry; exact .inr (.inr ⟨_, _, rfl, rfl, f.at (.bl _) o⟩)
    · exact o.elim
  · exact o.elim
theorem od_notIn (hu : X.A.units + 65 < cLine) : OpD X (compareOp .NotIn) (oIn true) := by
  refine ⟨_, OpR_or (op_notInT hu) (OpR_or (op_notInD hu) op_notin_str), fun H x y d e Q Q' rx ry o f => ?_⟩
  unfold oIn at o
  split at o
  · rename_i ys
    obtain ⟨g1, g2, o⟩ := o
    have h := Rep.dp _ (good_plain g2) ry
    have s2 := good_shaped g2
    simp only [D.py] at h s2
    exact .inl ⟨d.py, D.pys ys, Rep.dp d (good_plain g1) rx, h, good_shaped g1, s2, f.at (by simp only [any_pys]; exact .bl _) o⟩
  · rename_i ys
    obtain ⟨g1, g2, o⟩ := o
    have h := Rep.dp _ (good_plain g2) ry
    have s2 := good_shaped g2
    simp only [D.py] at h s2
    exact .inr (.inl ⟨d.py, D.pys ys, Rep.dp d (good_plain g1) rx, h, good_shaped g1, s2, f.at (by simp only [any_pys]; exact .bl _) o⟩)
  · split at o
    · cases rx; cases ry; exact .inr (.inr ⟨_, _, rfl, rfl, f.at (.bl _) o⟩)
    · exact o.elim
  · exact o.elim
/-- is None, is not None -/
def D.isN : D → Bool
  | .non => true
  | _ => false
def oIsN (neg : Bool) : Op2 := fun x y Q => match y with
  | .non => Q (.bl (if neg then !x.isN else x.isN))
  | _ => False
theorem isN_rep {K : PySem.W.Frag} {H : Hp} {v : V} {d : D} (r : Rep K H v d) : decide (v = .non) = d.isN := by
  cases r <;> simp [D.isN]
theorem od_isN : OpD X (compareOp .Is) (oIsN false) := by
  refine ⟨_, op_isN, fun H x y d e Q Q' rx ry o f => ?_⟩
  unfold oIsN at o
  split at o
  · cases ry
    exact ⟨rfl, f.at (by rw [isN_rep rx]; exact .bl _) o⟩
  · exact o.elim
theorem od_notN : OpD X (compareOp .IsNot) (oIsN true) := by
  refine ⟨_, op_notN, fun H x y d e Q Q' rx ry o f => ?_⟩
  unfold oIsN at o
  split at o
  · cases ry
    exact ⟨rfl, f.at (by rw [isN_rep rx]; exact .bl _) o⟩
  · exact o.elim
/-! ### subscripts, slices -/
def oIx : Op2 := fun x y Q => match x, y with
  | .tup xs, .int i => ∃ d, atI xs i = some d ∧ Q d
  | .lst xs, .int i => ∃ d, atI xs i = some d ∧ Q d
  | .str z, .int i => z.length ≤ sizeLine ∧ ∃ c, atI z.cps.toList i = some c ∧ Q (.str ⟨#[c]⟩)
  | _, _ => False
theorem atI_rep {K : PySem.W.Frag} {H : Hp} {vs : List V} {ds : List D} {i : Int} {d : D} (r : RepAll K H vs ds) (h : atI ds i = some d) : ∃ v, atI vs i = some v ∧ Rep K H v d := by
  unfold atI at h ⊢
  rw [r.length]
  cases e : ixN ds.length i with
  | none => rw [e] at h; cases h
  | some j => rw [e] at h; exact r.get h
theorem ixd : IxD X oIx := by
  refine ⟨_, ix_seq, fun H x y d e Q Q' rx ry o f => ?_⟩
  unfold oIx at o
  split at o
  · cases rx with
    | tup h r =>
      cases ry
      obtain ⟨c, e, o⟩ := o
      obtain ⟨v, e1, rv⟩ := atI_rep r e
      exact .inr (.inl ⟨_, _, _, v, rfl, rfl, h, e1, f.at rv o⟩)
  · cases rx with
    | lst h r =>
      cases ry
      obtain ⟨c, e, o⟩ := o
      obtain ⟨v, e1, rv⟩ := atI_rep r e
      exact .inl ⟨_, _, _, v, rfl, rfl, h.sq, e1, f.at rv o⟩
  · cases rx; cases ry
    obtain ⟨hz, c, e, o⟩ := o
    exact .inr (.inr ⟨_, _, c, rfl, rfl, hz, e, f.at (.str _) o⟩)
  · exact o.elim
/-- xs[lo:hi] -/
def cutD (xs : List D) (lo hi : Option Int) : List D := (xs.drop (HT.sIx xs.length 0 lo)).take (HT.sIx xs.length xs.length hi - HT.sIx xs.length 0 lo)
def oSl : D → Option Int → Option Int → (D → Prop) → Prop := fun x lo hi Q => match x with
  | .tup xs => Q (.tup (cutD xs lo hi))
  | .lst xs => Q (.lst (cutD xs lo hi))
  | _ => False
theorem cut_rep {K : PySem.W.Frag} {H : Hp} {vs : List V} {ds : List D} (r : RepAll K H vs ds) (lo hi : Option Int) : RepAll K H (cutV vs lo hi) (cutD ds lo hi) := by
  unfold cutV cutD
  rw [r.length]
  exact (r.drop _).take _
theorem sld : SlD X oSl := by
  refine ⟨_, SlR.or sl_tupA (SlR_frz sl_list), fun H x d lo hi Q Q' rx o f => ?_⟩
  unfold oSl at o
  split at o
  · cases rx with
    | tup h r =>
      refine .inl ⟨_, _, rfl, h, fun hw => ?_, fun _ p hp => f.newT hp (cut_rep r lo hi) o⟩
      refine f.at (.tup h r) ?_
      rename_i xs _ _
      have hl := r.length
      rw [hl] at hw
      have e : cutD xs lo hi = xs := by
        unfold cutD
        rw [hw.1, hw.2, List.drop_zero, Nat.sub_zero, List.take_length]
      rw [e] at o
      exact o
  · cases rx with
    | lst h r => exact .inr ⟨_, _, rfl, h.sq, fun p hp => f.newL hp (cut_rep r lo hi) o⟩
  · exact o.elim
/-! ### built-ins -/
def oLen : OpN := fun ds Q => match ds with
  | [.tup xs] => Q (.int xs.length)
  | [.lst xs] => Q (.int xs.length)
  | [.str z] => z.length ≤ sizeLine ∧ Q (.int z.length)
  | _ => False
theorem cd_len : CallD X (.builtin "len") oLen := by
  refine ⟨_, CallR.or call_len_seq call_len_str, fun H xs ds Q Q' r o f => ?_⟩
  unfold oLen at o
  split at o
  · cases r with
    | cons r1 rr =>
      cases rr
      cases r1 with
      | tup h ra => exact .inl ⟨_, _, rfl, .inr h, by rw [ra.length]; exact f.at (.int _) o⟩
  · cases r with
    | cons r1 rr =>
      cases rr
      cases r1 with
      | lst h ra => exact .inl ⟨_, _, rfl, .inl h.sq, by rw [ra.length]; exact f.at (.int _) o⟩
  · cases r with
    | cons r1 rr => cases rr; cases r1; exact .inr ⟨_, rfl, o.1, f.at (.int _) o.2⟩
  · exact o.elim
theorem rep1 {K : PySem.W.Frag} {H : Hp} {xs : List V} {d : D} (r : RepAll K H xs [d]) : ∃ v, xs = [v] ∧ Rep K H v d := by
  cases r with
  | cons r1 rr => cases rr; exact ⟨_, rfl, r1⟩
theorem rep2 {K : PySem.W.Frag} {H : Hp} {xs : List V} {d e : D} (r : RepAll K H xs [d, e]) : ∃ v w, xs = [v, w] ∧ Rep K H v d ∧ Rep K H w e := by
  cases r with
  | cons r1 rr =>
    cases rr with
    | cons r2 rr => cases rr; exact ⟨_, _, rfl, r1, r2⟩
def o1I (g : Int → Int) : OpN := fun ds Q => match ds with
  | [.int i] => Q (.int (g i))
  | _ => False
def o2I (g : Int → Int → Int) : OpN := fun ds Q => match ds with
  | [.int i, .int j] => Q (.int (g i j))
  | _ => False
theorem cd_abs : CallD X (.builtin "abs") (o1I fun i => if i < 0 then -i else i) := by
  refine ⟨_, call_abs, fun H xs ds Q Q' r o f => ?_⟩
  unfold o1I at o
  split at o
  · obtain ⟨v, rfl, r1⟩ := rep1 r
    cases r1; exact ⟨_, rfl, f.at (.int _) o⟩
  · exact o.elim
theorem cd_int : CallD X (.type "int") (o1I fun i => i) := by
  refine ⟨_, call_int1, fun H xs ds Q Q' r o f => ?_⟩
  unfold o1I at o
  split at o
  · obtain ⟨v, rfl, r1⟩ := rep1 r
    cases r1; exact .inl ⟨_, rfl, f.at (.int _) o⟩
  · exact o.elim
theorem cd_max2 (hc : X.calm = true) : CallD X (.builtin "max") (o2I fun i j => if j > i then j else i) := by
  refine ⟨_, call_max2 hc, fun H xs ds Q Q' r o f => ?_⟩
  unfold o2I at o
  split at o
  · obtain ⟨v, w, rfl, r1, r2⟩ := rep2 r
    cases r1; cases r2; exact ⟨_, _, rfl, f.at (.int _) o⟩
  · exact o.elim
theorem cd_min2 (hc : X.calm = true) : CallD X (.builtin "min") (o2I fun i j => if j < i then j else i) := by
  refine ⟨_, call_min2 hc, fun H xs ds Q Q' r o f => ?_⟩
  unfold o2I at o
  split at o
  · obtain ⟨v, w, rfl, r1, r2⟩ := rep2 r
    cases r1; cases r2; exact ⟨_, _, rfl, f.at (.int _) o⟩
  · exact o.elim
/-- lists of numbers, of bools -/
def intsD : List D → Option (List Int)
  | [] => some []
  | .int i :: r => (intsD r).map (i :: ·)
  | _ :: _ => none
def blsD : List D → Option (List Bool)
  | [] => some []
  | .bl i :: r => (blsD r).map (i :: ·)
  | _ :: _ => none
theorem ints_rep {K : PySem.W.Frag} {H : Hp} : ∀ {vs : List V} {ds : List D} {ns : List Int}, RepAll K H vs ds → intsD ds = some ns → vs = ns.map V.int
  | _, [], _, h, e => by cases h; simp [intsD] at e; subst e; rfl
  | _, d :: r, ns, h, e => by
    cases h with
    | cons h1 h2 =>
      cases h1 with
      | int i =>
        simp only [intsD, Option.map_eq_some_iff] at e
        obtain ⟨ms, e, rfl⟩ := e
        rw [ints_rep h2 e]; rfl
      | _ => simp [intsD] at e
theorem bls_rep {K : PySem.W.Frag} {H : Hp} : ∀ {vs : List V} {ds : List D} {ns : List Bool}, RepAll K H vs ds → blsD ds = some ns → vs = ns.map V.bl
  | _, [], _, h, e => by cases h; simp [blsD] at e; subst e; rfl
  | _, d :: r, ns, h, e => by
    cases h with
    | cons h1 h2 =>
      cases h1 with
      | bl i =>
        simp only [blsD, Option.map_eq_some_iff] at e
        obtain ⟨ms, e, rfl⟩ := e
        rw [bls_rep h2 e]; rfl
      | _ => simp [blsD] at e
theorem ints_map (ns : List Int) : intsD (ns.map D.int) = some ns := by
  induction ns with
  | nil => rfl
  | cons n r ih => simp only [List.map_cons, intsD, ih]; rfl
theorem bls_map (ns : List Bool) : blsD (ns.map D.bl) = some ns := by
  induction ns with
  | nil => rfl
  | cons n r ih => simp only [List.map_cons, blsD, ih]; rfl
def oSum : OpN := fun ds Q => ∃ xs ns, ds = [.lst xs] ∧ intsD xs = some ns ∧ Q (.int ns.sum)
theorem cd_sum (hc : X.calm = true) : CallD X (.builtin "sum") oSum := by
  refine ⟨_, cr_sum hc, fun H xs ds Q Q' r o f => ?_⟩
  obtain ⟨ys, ns, rfl, e, o⟩ := o
  obtain ⟨v, rfl, r1⟩ := rep1 r
  cases r1 with
  | lst h ra => exact ⟨_, ns, rfl, by rw [← ints_rep ra e]; exact h.sq, f.at (.int _) o⟩
def oAll : OpN := fun ds Q => ∃ xs bs, ds = [.lst xs] ∧ blsD xs = some bs ∧ Q (.bl (bs.all id))
def oAny : OpN := fun ds Q => ∃ xs bs, ds = [.lst xs] ∧ blsD xs = some bs ∧ Q (.bl (bs.any id))
theorem cd_all (hc : X.calm = true) : CallD X (.builtin "all") oAll := by
  refine ⟨_, cr_all hc, fun H xs ds Q Q' r o f => ?_⟩
  obtain ⟨ys, ns, rfl, e, o⟩ := o
  obtain ⟨v, rfl, r1⟩ := rep1 r
  cases r1 with
  | lst h ra => exact ⟨_, ns, rfl, by rw [← bls_rep ra e]; exact h.sq, f.at (.bl _) o⟩
theorem cd_any (hc : X.calm = true) : CallD X (.builtin "any") oAny := by
  refine ⟨_, cr_any hc, fun H xs ds Q Q' r o f => ?_⟩
  obtain ⟨ys, ns, rfl, e, o⟩ := o
  obtain ⟨v, rfl, r1⟩ := rep1 r
  cases r1 with
  | lst h ra => exact ⟨_, ns, rfl, by rw [← bls_rep ra e]; exact h.sq, f.at (.bl _) o⟩
/-- list(x), tuple(x) -/
def oList : OpN := fun ds Q => match ds with
  | [.tup xs] => Q (.lst xs)
  | [.lst xs] => Q (.lst xs)
  | _ => False
def oTuple : OpN := fun ds Q => match ds with
  | [.tup xs] => Q (.tup xs)
  | [.lst xs] => Q (.tup xs)
  | _ => False
theorem cd_list : CallD X (.type "list") oList := by
  refine ⟨_, CallR_frz call_list_of, fun H xs ds Q Q' r o f => ?_⟩
  unfold oList at o
  split at o
  · obtain ⟨v, rfl, r1⟩ := rep1 r
    cases r1 with
    | tup h ra => exact ⟨_, _, rfl, .inr h, fun l hl => f.newL hl ra o⟩
  · obtain ⟨v, rfl, r1⟩ := rep1 r
    cases r1 with
    | lst h ra => exact ⟨_, _, rfl, .inl h.sq, fun l hl => f.newL hl ra o⟩
  · exact o.elim
theorem cd_tuple : CallD X (.type "tuple") oTuple := by
  refine ⟨_, call_tuple_of, fun H xs ds Q Q' r o f => ?_⟩
  unfold oTuple at o
  split at o
  · obtain ⟨v, rfl, r1⟩ := rep1 r
    cases r1 with
    | tup h ra => exact ⟨_, _, rfl, .inr ⟨h, f.at (.tup h ra) o⟩⟩
  · obtain ⟨v, rfl, r1⟩ := rep1 r
    cases r1 with
    | lst h ra => exact ⟨_, _, rfl, .inl ⟨h.sq, fun l hl => f.newT hl ra o⟩⟩
  · exact o.elim
/-- isinstance(x, T), T a built-in class -/
def D.tyN : D → Option String
  | .non => some "NoneType"
  | .bl _ => some "bool"
  | .int _ => some "int"
  | .str _ => some "str"
  | .tup _ => some "tuple"
  | .lst _ => some "list"
  | _ => none
/-- data without dicts, objects and classes at its top -/
def D.dat : D → Bool
  | .dct _ _ => false
  | .adr _ => false
  | .ty _ => false
  | _ => true
def D.isInt : D → Bool
  | .int _ => true
  | .bl _ => true
  | _ => false
def D.isBool : D → Bool
  | .bl _ => true
  | _ => false
def D.isStr : D → Bool
  | .str _ => true
  | _ => false
def D.isTup : D → Bool
  | .tup _ => true
  | _ => false
def D.isLst : D → Bool
  | .lst _ => true
  | _ => false
def isiB (x : D) (T : String) : Bool := match T with
  | "int" => x.isInt
  | "bool" => x.isBool
  | "str" => x.isStr
  | "tuple" => x.isTup
  | "list" => x.isLst
  | _ => false
def isiT (T : String) : Bool := match T with
  | "int" => true
  | "bool" => true
  | "str" => true
  | "tuple" => true
  | "list" => true
  | _ => false
theorem isi_int (x : D) : isiB x "int" = x.isInt := rfl
theorem isi_bool (x : D) : isiB x "bool" = x.isBool := rfl
theorem isi_str (x : D) : isiB x "str" = x.isStr := rfl
theorem isi_tuple (x : D) : isiB x "tuple" = x.isTup := rfl
theorem isi_list (x : D) : isiB x "list" = x.isLst := rfl
theorem isiT_int : isiT "int" = true := rfl
theorem isiT_bool : isiT "bool" = true := rfl
theorem isiT_str : isiT "str" = true := rfl
theorem isiT_tuple : isiT "tuple" = true := rfl
theorem isiT_list : isiT "list" = true := rfl
def oIsi : OpN := fun ds Q => match ds with
  | [x, .ty T] => x.dat = true ∧ isiT T = true ∧ Q (.bl (isiB x T))
  | _ => False
theorem ty_rep {K : PySem.W.Frag} {H : Hp} {v : V} {d : D} {t : String} (r : Rep K H v d) (h : d.tyN = some t) : TyX K H v (.type t) := by
  cases r with
  | non => cases h; exact .base .non
  | bl b => cases h; exact .base (.bl b)
  | int i => cases h; exact .base (.int i)
  | str x => cases h; exact .base (.str x)
  | tup hs ra =>
    cases h
    rcases hs with (hs | ⟨o, hs⟩) | ⟨o, its, n, hk, hc, _⟩
    · exact .base (.tup hs)
    · exact .fTuple hs
    · exact .kTuple hk hc
  | lst hs ra =>
    cases h
    rcases hs with ⟨o, hs⟩ | ⟨o, its, n, hk, hc, _⟩
    · exact .base (.frz hs)
    · exact .kList hk hc
  | dct _ _ => cases h
  | adr _ => cases h
  | ty _ => cases h
theorem isiB_kit {T : String} {d : D} (h1 : d.dat = true) (h2 : isiT T = true) : ∃ t, d.tyN = some t ∧ kitB t T = some (isiB d T) := by
  unfold isiT at h2
  split at h2
  all_goals first | (cases h2; done) | skip
  all_goals (cases d <;> simp only [D.dat, Bool.false_eq_true] at h1 <;> exact ⟨_, rfl, by simp only [isiB, D.isInt, D.isBool, D.isStr, D.isTup, D.isLst]; decide +kernel⟩)
theorem cd_isi : CallD X (.builtin "isinstance") oIsi := by
  refine ⟨_, call_isi, fun H xs ds Q Q' r o f => ?_⟩
  unfold oIsi at o
  split at o
  · obtain ⟨v, w, rfl, r1, r2⟩ := rep2 r
    obtain ⟨h1, h2, o⟩ := o
    obtain ⟨t, ht, hk⟩ := isiB_kit h1 h2
    cases r2
    exact ⟨v, _, .type t, _, _, rfl, .ty _, ty_rep r1 ht, kit_ty hk, f.at (.bl _) o⟩
  · exact o.elim
end
end Pl
set_option Elab.async false
set_option linter.all false
set_option maxRecDepth 100000
set_option maxHeartbeats 4000000
/-! Pl, part 7: own objects: made, read, changed -/
namespace Pl
open PySem PySem.Spec L2
open PyProof.Rows (envOfC)
/-- where something is found: a value, or the own object of a slot -/
inductive Pk where
  | val (d : D) | slot (i : Nat)
inductive Con where
  | val (d : D) | own (o : Own) | bad
def con (S : Sta) : Pk → Con
  | .val (.adr a) => match S.W a with
    | some o => .own o
    | none => .val (.adr a)
  | .val d => .val d
  | .slot i => match S.ρ[i]? with
    | some (.own o) => .own o
    | some (.val d) => .val d
    | _ => .bad
def RepK (K : PySem.W.Frag) (H : Hp) (σ : St) (v : V) : Pk → Prop
  | .val d => Rep K H v d
  | .slot i => σ[i]? = some (some v)
def RepC (K : PySem.W.Frag) (H : Hp) (v : V) : Con → Prop
  | .val d => Rep K H v d
  | .own o => ∃ a, v = .ref a ∧ OwnAt K H a o
  | .bad => True
theorem con_rep {K : PySem.W.Frag} {H : Hp} {σ : St} {S : Sta} {v : V} {p : Pk} (r : Rel K H σ S) (h : RepK K H σ v p) : RepC K H v (con S p) := by
  cases p with
  | val d =>
    cases d with
    | adr a =>
      show RepC K H v (match S.W a with | some o => .own o | none => .val (.adr a))
      cases e : S.W a with
      | some o => cases h; exact ⟨a, rfl, r.wor a o e⟩
      | none => exact h
    | _ => exact h
  | slot i =>
    show RepC K H v (match S.ρ[i]? with | some (.own o) => .own o | some (.val d) => .val d | _ => .bad)
    cases e : S.ρ[i]? with
    | none => trivial
    | some s =>
      have q := r.slot i s e
      have h' : σ[i]? = some (some v) := h
      cases s with
      | emp => trivial
      | val d => obtain ⟨w, e1, e2⟩ := q; rw [h'] at e1; cases e1; exact e2
      | own o => obtain ⟨a, e1, e2⟩ := q; rw [h'] at e1; cases e1; exact ⟨a, rfl, e2⟩
theorem RepK.nx {K : PySem.W.Frag} {σ : St} {S S1 : Sta} {H H1 : Hp} {v : V} {p : Pk} (n : Nx σ S H σ S1 H1) (h : RepK K H σ v p) : RepK K H1 σ v p := by
  cases p with
  | val d => exact Rep.nx n h
  | slot i => exact h
abbrev PTK := Sta → (Pk → Sta → Prop) → PX → Prop
def lK (X : Cx) (W : WX) (t : PTK) : TE := fun σ H Q => ∃ S Q' E', Rel X.K H σ S ∧ t S Q' E' ∧ (∀ v p H' S', Nx σ S H σ S' H' → Rel X.K H' σ S' → RepK X.K H' σ v p → Q' p S' → Q v H') ∧ UpX X.K σ S H W E'
def PK (X : Cx) (e : Expr) (t : PTK) : Prop := ∀ W, Takes X W → PE X e (lK X W t)
def pkVar (i : Nat) : PTK := fun S Q _ => match S.ρ[i]? with
  | some (.val d) => Q (.val d) S
  | some (.own _) => Q (.slot i) S
  | _ => False
def pkOf (t : PTE) : PTK := fun S Q E => t S (fun d S1 => Q (.val d) S1) E
section
variable {X : Cx} {e a b : Expr} {te ta tb : PTE} {tk : PTK} {pos : Pos}
theorem pk_var {i : Nat} (h : PE X e (tVar i)) : PK X e (pkVar i) := fun W _ => weakE h fun σ H Q => by
  rintro ⟨S, Q', E', rel, q, up, _⟩
  unfold pkVar at q
  split at q
  · rename_i d es
    obtain ⟨v, h1, h2⟩ := rel.slot i _ es
    exact ⟨v, h1, up v (.val d) _ _ .refl rel h2 q⟩
  · rename_i o es
    obtain ⟨a, h1, _⟩ := rel.slot i _ es
    exact ⟨_, h1, up _ (.slot i) _ _ .refl rel h1 q⟩
  · exact q.elim
theorem pk_of (h : PM X e te) : PK X e (pkOf te) := fun W tk => weakE (h W tk) fun σ H Q => by
  rintro ⟨S, Q', E', rel, q, up, ux⟩
  exact ⟨S, _, E', rel, q, fun v d H1 S1 n1 r1 p1 q1 => up v (.val d) H1 S1 n1 r1 p1 q1, ux⟩
/-! ### dicts as data -/
def keyK : D → Option Key
  | .int i => some (.inl i)
  | .str x => some (.inr x)
  | _ => none
def dget (ks vs : List D) (k : D) : Option D := ((ks.zip vs).find? fun p => eqD p.1 k).map (·.2)
def dput (ks vs : List D) (k v : D) : List D × List D := if (ks.any fun x => eqD x k) = true then (ks, (ks.zip vs).map fun p => if eqD p.1 k = true then v else p.2) else (ks ++ [k], vs ++ [v])
theorem keyK_some {d : D} {k : Key} (h : keyK d = some k) : d = keyD k := by
  cases d <;> simp only [keyK, Option.some.injEq] at h <;> first | (subst h; rfl) | cases h
theorem eqD_key (k l : Key) : eqD (keyD k) (keyD l) = decide (k = l) := by
  cases k with
  | inl i =>
    cases l with
    | inl j => show (i == j) = _; rw [key_ll]
    | inr y => show false = _; rw [key_lr]
  | inr x =>
    cases l with
    | inl j => show false = _; rw [key_rl]
    | inr y => show (x == y) = _; rw [key_rr, Bool.beq_eq_decide_eq]
theorem keyV {K : PySem.W.Frag} {H : Hp} {v : V} {k : Key} (r : Rep K H v (keyD k)) : v = kV k := by
  cases k <;> cases r <;> rfl
theorem dget_rep {K : PySem.W.Frag} {H : Hp} {k : Key} : ∀ {kvs : List (Key × V)} {ds : List D}, RepAll K H (kvs.map (·.2)) ds →
    match dget (kvs.map fun p => keyD p.1) ds (keyD k) with
    | some d => ∃ v, valV kvs k = some v ∧ Rep K H v d
    | none => valV kvs k = none
  | [], _, h => by cases h; exact valV_nil
  | p :: r, _, h => by
    cases h with
    | cons h1 h2 =>
      rename_i d ds
      have ih := dget_rep (k := k) h2
      by_cases e : p.1 = k
      · have : dget ((p :: r).map fun p => keyD p.1) (d :: ds) (keyD k) = some d := by
          simp [dget, eqD_key, e]
        rw [this]
        exact ⟨_, valV_pos e, h1⟩
      · have : dget ((p :: r).map fun p => keyD p.1) (d :: ds) (keyD k) = dget (r.map fun p => keyD p.1) ds (keyD k) := by
          simp [dget, eqD_key, e]
        rw [this, valV_neg e]
        exact ih
theorem any_key {k : Key} : ∀ kvs : List (Key × V), ((kvs.map fun p => keyD p.1).any fun x => eqD x (keyD k)) = kvs.any fun kv => decide (kv.1 = k)
  | [] => rfl
  | p :: r => by
    simp only [List.map_cons, List.any_cons, eqD_key, any_key r]
theorem dput_rep {K : PySem.W.Frag} {H : Hp} {k : Key} {v : V} {d : D} (hv : Rep K H v d) {kvs : List (Key × V)} {ds : List D} (h : RepAll K H (kvs.map (·.2)) ds) :
    (dput (kvs.map fun p => keyD p.1) ds (keyD k) d).1 = (putK kvs k v).map (fun p => keyD p.1) ∧ RepAll K H ((putK kvs k v).map (·.2)) (dput (kvs.map fun p => keyD p.1) ds (keyD k) d).2 := by
  unfold dput putK
  rw [any_key]
  by_cases e : (kvs.any fun kv => decide (kv.1 = k)) = true
  · rw [if_pos e, if_pos e]
    refine ⟨?_, ?_⟩
    · rw [List.map_map]
      refine List.map_congr_left fun p _ => ?_
      by_cases hp : p.1 = k
      · simp [hp]
      · simp [hp]
    · have go : ∀ (kvs : List (Key × V)) (ds : List D), RepAll K H (kvs.map (·.2)) ds → RepAll K H ((kvs.map fun kv => if kv.1 = k then (kv.1, v) else kv).map (·.2)) (((kvs.map fun p => keyD p.1).zip ds).map fun p => if eqD p.1 (keyD k) = true then d else p.2) := by
        intro kvs
        induction kvs with
        | nil => intro ds h; cases h; exact .nil
        | cons p r ih =>
          intro ds h
          cases h with
          | cons h1 h2 =>
            simp only [List.map_cons, List.zip_cons_cons, eqD_key]
            refine .cons ?_ (by simpa only [eqD_key] using ih _ h2)
            by_cases hp : p.1 = k
            · simp only [hp, if_true, decide_true]; exact hv
            · simp only [hp, if_false, decide_false, Bool.false_eq_true]; exact h1
      exact go kvs ds h
  · rw [if_neg e, if_neg e]
    exact ⟨by simp, by rw [List.map_append]; exact h.append (.cons hv .nil)⟩
/-! ### reading: x[i], len(x), k in x -/
def ixC : Con → D → (D → Prop) → Prop := fun c y Q => match c with
  | .val x => match x with
    | .dct ks vs => (keyK y).isSome = true ∧ ∃ d, dget ks vs y = some d ∧ Q d
    | _ => oIx x y Q
  | .own (.lst xs) => ∃ i d, y = .int i ∧ atI xs i = some d ∧ Q d
  | .own (.dct ks vs) => (keyK y).isSome = true ∧ ∃ d, dget ks vs y = some d ∧ Q d
  | _ => False
/-- d[k], a dict that is tracked or frozen -/
def rIxDk : R2 := fun x y H Q => ∃ p v, x = .ref p ∧ DGet H p y (some v) ∧ Q v H
theorem ix_dk (hu : X.A.units + 1 < cLine) : IxR X rIxDk := by
  intro value slice pins s σ H x y v u Q I rx ry h hs
  obtain ⟨p, z, rfl, g, q⟩ := h
  cases rx
  exact PyProof.Rows.tail_any (dict_typeIs I g) PySem.F.slot_dict_getitem.lookup (d_getItem hu I g ry fun w' s3 I3 rw' => ⟨z, H, I3, rw', q⟩) hs
def pIxK (tk : PTK) (tb : PTE) : PTE := fun S Q E => tk S (fun p S1 => tb S1 (fun y S2 => ixC (con S2 p) y fun z => Q z S2) E) E
theorem ixC_ok {K : PySem.W.Frag} {H : Hp} {v w : V} {c : Con} {y : D} {Q : VK} {Q' : D → Prop} (rc : RepC K H v c) (ry : Rep K H w y) (o : ixC c y Q') (f : Fin K H Q Q') : rIx K v w H Q ∨ rIxDk v w H Q := by
  unfold ixC at o
  split at o
  · rename_i x
    split at o
    · rename_i ks vs
      obtain ⟨hk, d, hd, o⟩ := o
      obtain ⟨k, hk⟩ := Option.isSome_iff_exists.mp hk
      have ek := keyK_some hk
      subst ek
      cases rc with
      | dct h r =>
        have g := dget_rep (k := k) r
        rw [hd] at g
        obtain ⟨z, g1, g2⟩ := g
        refine .inr ⟨_, z, rfl, ?_, f.at g2 o⟩
        rw [keyV ry]
        exact .inl ⟨_, k, .inr ⟨_, h⟩, rfl, g1.symm⟩
    · left
      unfold oIx at o
      have rc : Rep K H v x := rc
      split at o
      · cases rc with
        | tup h r =>
          cases ry
          obtain ⟨c, e, o⟩ := o
          obtain ⟨v, e1, rv⟩ := atI_rep r e
          exact .inr (.inl ⟨_, _, _, v, rfl, rfl, h, e1, f.at rv o⟩)
      · cases rc with
        | lst h r =>
          cases ry
          obtain ⟨c, e, o⟩ := o
          obtain ⟨v, e1, rv⟩ := atI_rep r e
          exact .inl ⟨_, _, _, v, rfl, rfl, h.sq, e1, f.at rv o⟩
      · cases rc; cases ry
        obtain ⟨hz, c, e, o⟩ := o
        exact .inr (.inr ⟨_, _, c, rfl, rfl, hz, e, f.at (.str _) o⟩)
      · exact o.elim
  · rename_i xs
    obtain ⟨i, d, rfl, e, o⟩ := o
    obtain ⟨a, rfl, vs, h, r⟩ := rc
    cases ry
    obtain ⟨z, e1, rz⟩ := atI_rep r e
    exact .inl (.inl ⟨_, _, _, z, rfl, rfl, .of h, e1, f.at rz o⟩)
  · rename_i ks vs
    obtain ⟨hk, d, hd, o⟩ := o
    obtain ⟨k, hk⟩ := Option.isSome_iff_exists.mp hk
    have ek := keyK_some hk
    subst ek
    obtain ⟨a, rfl, kvs, h, rfl, r⟩ := rc
    have g := dget_rep (k := k) r
    rw [hd] at g
    obtain ⟨z, g1, g2⟩ := g
    refine .inr ⟨_, z, rfl, ?_, f.at g2 o⟩
    rw [keyV ry]
    exact .inl ⟨_, k, .inl h, rfl, g1.symm⟩
  · exact o.elim
theorem pm_ixK (hu : X.A.units + 1 < cLine) (ha : PK X a tk) (hb : PM X b tb) (hpi : PlainIx b) : PM X (.Subscript a b pos) (pIxK tk tb) := fun W t => weakE (pe_ix (ix_seq.or (ix_dk hu)) (ha W t) (hb W t) hpi) fun σ H Q => by
  rintro ⟨S, Q', E', rel, q, up, ux⟩
  refine ⟨S, _, E', rel, q, fun v p H1 S1 n1 r1 p1 q1 => ?_, ux⟩
  refine ⟨S1, _, E', r1, q1, fun w y H2 S2 n2 r2 p2 q2 => ?_, ux.thn n1⟩
  exact ixC_ok (con_rep r2 (p1.nx n2)) p2 q2 (up.fin (n1.trans n2) r2)
/-- a table of the module: a dict that is written, its keys texts -/
def pTab (p : Addr) (tab : List (Str × D)) (ta tb : PTE) : PTE := pOp (fun x y Q => x = .adr p ∧ ∃ z d, y = .str z ∧ tab.lookup z = some d ∧ Q d) ta tb
theorem pm_tab {p : Addr} {tab : List (Str × D)} (ht : ∀ z d, tab.lookup z = some d → ∃ v, KDct X.K X.w p z v ∧ ∀ H, Rep X.K H v d) (ha : PM X a ta) (hb : PM X b tb) (hpi : PlainIx b) : PM X (.Subscript a b pos) (pTab p tab ta tb) :=
  pm_ix ⟨_, ix_kdict, fun H x y d e Q Q' rx ry o f => by
    obtain ⟨rfl, z, c, rfl, hl, o⟩ := o
    cases rx; cases ry
    obtain ⟨v, hv, rv⟩ := ht z c hl
    exact ⟨_, _, v, rfl, rfl, hv, f.at (rv H) o⟩⟩ ha hb hpi
/-- len(x) -/
def lenC : Con → (D → Prop) → Prop := fun c Q => match c with
  | .val x => oLen [x] Q
  | .own (.lst xs) => Q (.int xs.length)
  | .own (.dct ks vs) => Q (.int ks.length)
  | _ => False
/-! ### changing -/
def putC (S : Sta) : Pk → Own → Sta
  | .slot i, o => ⟨S.ρ.set i (.own o), S.W⟩
  | .val (.adr a), o => ⟨S.ρ, fun b => if b = a then some o else S.W b⟩
  | .val _, _ => S
theorem Rel.mut {K : PySem.W.Frag} {H : Hp} {σ : St} {S : Sta} {p : Pk} {o : Own} {v : V} (r : Rel K H σ S) (hc : con S p = .own o) (rv : RepK K H σ v p) :
    ∃ a, v = .ref a ∧ OwnAt K H a o ∧ ∀ (o' : Own) (u : HO), (∀ H2, Step (fun b => b = a) H H2 → H2 a = some u → OwnAt K H2 a o') → Nx σ S H σ (putC S p o') (upd H a u) ∧ Rel K (upd H a u) σ (putC S p o') := by
  have stepA : ∀ {A : Addr → Prop} {a : Addr} {u : HO}, Oa σ S a → A a → Step A H (upd H a u) := fun {A a u} ho ha b w e q => by
    by_cases hb : b = a
    · subst hb
      obtain ⟨u', e', np, _⟩ := r.known ho
      rw [e] at e'; cases e'
      rcases q with q | q
      · exact absurd q np
      · exact absurd ha q
    · rw [upd_ne hb]; exact e
  have kn : ∀ {a : Addr} {u : HO} b, (upd H a u) b = none → H b = none := fun {a u} b h => by
    by_cases hb : b = a
    · subst hb; rw [upd_same] at h; cases h
    · rw [upd_ne hb] at h; exact h
  cases p with
  | slot i =>
    have hc' : (match S.ρ[i]? with | some (.own o) => Con.own o | some (.val d) => .val d | _ => .bad) = .own o := hc
    split at hc'
    · rename_i o1 es
      cases hc'
      obtain ⟨a, e1, ow⟩ := r.slot i _ es
      have rv' : σ[i]? = some (some v) := rv
      rw [rv'] at e1; cases e1
      have oi : OwnS σ S.ρ i a := ⟨⟨_, es⟩, rv'⟩
      refine ⟨a, rfl, ow, fun o' u hO => ?_⟩
      have back : ∀ j b, OwnS σ (S.ρ.set i (.own o')) j b → OwnS σ S.ρ j b := fun j b h => by
        obtain ⟨⟨o2, h1⟩, h2⟩ := h
        by_cases hj : j = i
        · subst hj; exact ⟨⟨_, es⟩, h2⟩
        · rw [List.getElem?_set_ne (Ne.symm hj)] at h1; exact ⟨⟨o2, h1⟩, h2⟩
      have sa := stepA (A := fun b => b = a) (u := u) (.inl ⟨i, oi⟩) rfl
      refine ⟨⟨stepA (.inl ⟨i, oi⟩) (.inl ⟨i, oi⟩), kn, fun x h => .inl ?_⟩, ⟨by simpa [putC] using r.len, fun j s e => ?_, fun j k b h1 h2 => r.inj j k b (back _ _ h1) (back _ _ h2), fun b o2 h => ?_, fun j b h => r.dis j b (back _ _ h)⟩⟩
      · rcases h with ⟨j, h⟩ | h
        · exact .inl ⟨j, back j x h⟩
        · exact .inr h
      · have e' : (S.ρ.set i (.own o'))[j]? = some s := e
        by_cases hj : j = i
        · subst hj
          rw [List.getElem?_set_self (List.getElem?_eq_some_iff.mp es).1] at e'
          cases e'
          exact ⟨a, rv', hO _ sa upd_same⟩
        · rw [List.getElem?_set_ne (Ne.symm hj)] at e'
          have q := r.slot j s e'
          cases s with
          | emp => trivial
          | val d => obtain ⟨w, h1, h2⟩ := q; exact ⟨w, h1, h2.step sa⟩
          | own o2 =>
            obtain ⟨b, h1, h2⟩ := q
            exact ⟨b, h1, h2.step sa fun z => hj (r.inj j i b ⟨⟨o2, e'⟩, h1⟩ (z ▸ oi))⟩
      · refine (r.wor b o2 h).step sa fun z => ?_
        have z' : b = a := z
        subst z'
        have q : S.W b = none := r.dis i b oi
        rw [show S.W b = some o2 from h] at q; cases q
    · cases hc'
    · cases hc'
  | val d =>
    cases d with
    | adr a =>
      have hc' : (match S.W a with | some o => Con.own o | none => .val (.adr a)) = .own o := hc
      cases ew : S.W a with
      | none => rw [ew] at hc'; cases hc'
      | some o1 =>
        rw [ew] at hc'; cases hc'
        cases rv
        have oa : Oa σ S a := .inr (by rw [ew]; exact fun z => nomatch z)
        refine ⟨a, rfl, r.wor a _ ew, fun o' u hO => ?_⟩
        have sa := stepA (A := fun b => b = a) (u := u) oa rfl
        have ns : ∀ j b, OwnS σ S.ρ j b → b ≠ a := fun j b h z => by
          subst z
          have q := r.dis j b h
          rw [ew] at q; cases q
        refine ⟨⟨stepA oa oa, kn, fun x h => .inl ?_⟩, ⟨r.len, fun j s e => ?_, r.inj, fun b o2 h => ?_, fun j b h => ?_⟩⟩
        · rcases h with h | h
          · exact .inl h
          · by_cases hx : x = a
            · subst hx; exact oa
            · have h' : (if x = a then some o' else S.W x) ≠ none := h
              rw [if_neg hx] at h'; exact .inr h'
        · have q := r.slot j s e
          cases s with
          | emp => trivial
          | val d => obtain ⟨w, h1, h2⟩ := q; exact ⟨w, h1, h2.step sa⟩
          | own o2 => obtain ⟨b, h1, h2⟩ := q; exact ⟨b, h1, h2.step sa (ns j b ⟨⟨o2, e⟩, h1⟩)⟩
        · have h' : (if b = a then some o' else S.W b) = some o2 := h
          by_cases hb : b = a
          · subst hb; rw [if_pos rfl] at h'; cases h'; exact hO _ sa upd_same
          · rw [if_neg hb] at h'; exact (r.wor b o2 h').step sa hb
        · show (if b = a then some o' else S.W b) = none
          rw [if_neg (ns j b h)]; exact r.dis j b h
    | _ => cases hc
/-- x.append(e) -/
def pAppend (tk : PTK) (te : PTE) : PTS := fun P S => tk S (fun p S1 => (∃ xs, con S1 p = .own (.lst xs)) ∧ te S1 (fun d S2 => ∃ xs, con S2 p = .own (.lst xs) ∧ xs.length < sizeLine ∧ P.nx (putC S2 p (.lst (xs ++ [d])))) P.ex) P.ex
theorem pms_append {st : Stmt} (h : ∀ W, Takes X W → L2.PS X st (tDrop (tBM X.K "list" rAppend (lK X W tk) (tCons (lE X W te) tNil)))) : PMS X st (pAppend tk te) := fun W t => weakS (h W t) fun D σ H => by
  rintro ⟨S, P, rel, q, up⟩
  refine ⟨S, _, _, rel, q, fun v p H1 S1 n1 r1 p1 q1 => ?_, up.ux⟩
  obtain ⟨⟨xs, hc⟩, q1⟩ := q1
  obtain ⟨a, rfl, ⟨ys, ha, _⟩, _⟩ := r1.mut hc p1
  refine ⟨.inl ⟨rfl, _, .of ha⟩, S1, _, _, r1, q1, fun w d H2 S2 n2 r2 p2 q2 => ?_, up.ux.thn n1⟩
  obtain ⟨zs, hc2, hz, q2⟩ := q2
  obtain ⟨b, eb, ⟨ws, hb, rb⟩, mt⟩ := r2.mut hc2 (p1.nx n2)
  cases eb
  refine ⟨a, ws, w, rfl, rfl, hb, by rw [rb.length]; exact hz, ?_⟩
  obtain ⟨nx, r'⟩ := mt (.lst (zs ++ [d])) (.lst (ws ++ [w])) fun H3 st h3 => ⟨_, h3, (rb.step st).append (.cons (p2.step st) .nil)⟩
  exact up.nx _ _ _ ((n1.trans n2).trans nx) r' q2
/-- x.pop() -/
def pPop (tk : PTK) : PTE := fun S Q E => tk S (fun p S1 => ∃ xs d, con S1 p = .own (.lst xs) ∧ xs[xs.length - 1]? = some d ∧ Q d (putC S1 p (.lst xs.dropLast))) E
theorem RepAll.dropLast {K : PySem.W.Frag} {H : Hp} {vs : List V} {ds : List D} (r : RepAll K H vs ds) : RepAll K H vs.dropLast ds.dropLast := by
  rw [List.dropLast_eq_take, List.dropLast_eq_take, r.length]; exact r.take _
theorem pm_pop (h : ∀ W, Takes X W → PE X e (tBM0 X.K "list" rPop (lK X W tk))) : PM X e (pPop tk) := fun W t => weakE (h W t) fun σ H Q => by
  rintro ⟨S, Q', E', rel, q, up, ux⟩
  refine ⟨S, _, _, rel, q, fun v p H1 S1 n1 r1 p1 q1 => ?_, ux⟩
  obtain ⟨xs, d, hc, hl, q1⟩ := q1
  obtain ⟨a, rfl, ⟨ys, ha, ra⟩, mt⟩ := r1.mut hc p1
  obtain ⟨y, e1, ry⟩ := ra.get hl
  refine ⟨.inl ⟨rfl, _, .of ha⟩, a, ys, y, rfl, rfl, ha, by rw [ra.length]; exact e1, ?_⟩
  have st : ∀ {u}, Step (fun b => b = a) H1 (upd H1 a u) := fun {u} b w eb z => by
    by_cases hb : b = a
    · subst hb
      rw [ha] at eb; cases eb
      rcases z with z | z
      · exact z.elim
      · exact absurd rfl z
    · rw [upd_ne hb]; exact eb
  obtain ⟨nx, r'⟩ := mt (.lst xs.dropLast) (.lst ys.dropLast) fun H3 st h3 => ⟨_, h3, (ra.step st).dropLast⟩
  exact up _ _ _ _ (n1.trans nx) r' (ry.step st) q1
/-- x[i] = e -/
def setC : Con → D → D → (Own → Prop) → Prop := fun c i d Q => match c with
  | .own (.lst xs) => ∃ k j, i = .int k ∧ ixN xs.length k = some j ∧ Q (.lst (xs.set j d))
  | .own (.dct ks vs) => (keyK i).isSome = true ∧ ks.length < sizeLine ∧ Q (.dct (dput ks vs i d).1 (dput ks vs i d).2)
  | _ => False
def rSetD : TSet := fun o i v H Q => ∃ a H', o = .ref a ∧ DPut H a i v H' ∧ Q H'
theorem set_dict (hu : X.A.units + 1 < cLine) : PSet X rSetD := by
  intro pins s σ H o i v ov iv u Q I ro ri rv h
  obtain ⟨a, H', rfl, g, q⟩ := h
  cases ro
  exact d_setItem hu I g ri rv fun s4 I4 => ⟨H', I4, q⟩
theorem set_any (hu : X.A.units + 1 < cLine) : PSet X (fun o i v H Q => rSetL o i v H Q ∨ rSetD o i v H Q) := by
  intro pins s σ H o i v ov iv u Q I ro ri rv h
  rcases h with h | h
  · exact set_list pins s σ H o i v ov iv u Q I ro ri rv h
  · exact set_dict hu pins s σ H o i v ov iv u Q I ro ri rv h
def pStore (tv : PTE) (tk : PTK) (ti : PTE) : PTS := fun P S => tv S (fun d S1 => tk S1 (fun p S2 => ti S2 (fun i S3 => setC (con S3 p) i d fun o' => P.nx (putC S3 p o')) P.ex) P.ex) P.ex
theorem pms_store {tv ti : PTE} {st : Stmt} (h : ∀ W, Takes X W → L2.PS X st (tAsg (lE X W tv) (gSub (lK X W tk) (lE X W ti) fun o i v H Q => rSetL o i v H Q ∨ rSetD o i v H Q))) : PMS X st (pStore tv tk ti) := fun W t => weakS (h W t) fun D σ H => by
  rintro ⟨S, P, rel, q, up⟩
  refine ⟨S, _, _, rel, q, fun v d H1 S1 n1 r1 p1 q1 => ?_, up.ux⟩
  refine ⟨S1, _, _, r1, q1, fun x p H2 S2 n2 r2 p2 q2 => ?_, up.ux.thn n1⟩
  refine ⟨S2, _, _, r2, q2, fun y i H3 S3 n3 r3 p3 q3 => ?_, up.ux.thn (n1.trans n2)⟩
  have rd := (p1.nx n2).nx n3
  have rp := p2.nx n3
  have nn := (n1.trans n2).trans n3
  simp only [setC] at q3
  split at q3
  · rename_i xs hc
    obtain ⟨k, j, rfl, hj, q3⟩ := q3
    obtain ⟨a, rfl, ⟨ys, ha, ra⟩, mt⟩ := r3.mut hc rp
    cases p3
    obtain ⟨nx, r'⟩ := mt (.lst (xs.set j d)) (.lst (ys.set j v)) fun H4 st h4 => ⟨_, h4, RepAll.set (rd.step st) j (ra.step st)⟩
    exact .inl ⟨a, ys, k, j, rfl, rfl, ha, by rw [ra.length]; exact hj, up.nx _ _ _ (nn.trans nx) r' q3⟩
  · rename_i ks vs hc
    obtain ⟨hk, hl, q3⟩ := q3
    obtain ⟨k, hk⟩ := Option.isSome_iff_exists.mp hk
    have ek := keyK_some hk
    subst ek
    obtain ⟨a, rfl, ⟨kvs, ha, rfl, ra⟩, mt⟩ := r3.mut hc rp
    obtain ⟨nx, r'⟩ := mt (.dct (dput (kvs.map fun p => keyD p.1) vs (keyD k) d).1 (dput (kvs.map fun p => keyD p.1) vs (keyD k) d).2) (.dK (putK kvs k v)) fun H4 st h4 =>
      ⟨_, h4, (dput_rep (rd.step st) (ra.step st)).1, (dput_rep (rd.step st) (ra.step st)).2⟩
    refine .inr ⟨a, _, rfl, ?_, up.nx _ _ _ (nn.trans nx) r' q3⟩
    rw [keyV p3]
    exact .k ha (by rw [← List.length_map (f := fun p : Key × V => keyD p.1)]; exact hl)
  · exact q3.elim
/-! ### making -/
abbrev PTO := Sta → (Own → Sta → Prop) → PX → Prop
def lF (X : Cx) (W : WX) (t : PTO) : TE := fun σ H Q => ∃ S Q' E', Rel X.K H σ S ∧ t S Q' E' ∧ (∀ a o H' S', Nx σ S H σ S' H' → Rel X.K H' σ S' → OwnAt X.K H' a o → H a = none → ¬ Oa σ S' a → Q' o S' → Q (.ref a) H') ∧ UpX X.K σ S H W E'
def PMO (X : Cx) (e : Expr) (t : PTO) : Prop := ∀ W, Takes X W → PE X e (lF X W t)
def poLst (t : PTA) : PTO := fun S Q E => t S (fun ds S1 => ds.length ≤ sizeLine ∧ Q (.lst ds) S1) E
def poDct : PTO := fun S Q _ => Q (.dct [] []) S
theorem Rel.fresh {K : PySem.W.Frag} {H : Hp} {σ : St} {S : Sta} {a : Addr} (r : Rel K H σ S) (h : H a = none) : ¬ Oa σ S a := fun z => by
  obtain ⟨u, e, _⟩ := r.known z
  rw [h] at e; cases e
theorem pmo_lst {es : List Expr} {t : PTA} (h : PMA X es t) : PMO X (.List es pos) (poLst t) := fun W tk => weakE (pe_lst (h W tk)) fun σ H Q => by
  rintro ⟨S, Q', E', rel, q, up, ux⟩
  refine ⟨S, _, E', rel, q, fun vs ds H1 S1 n1 r1 p1 q1 => ⟨by rw [p1.length]; exact q1.1, fun p hp => ?_⟩, ux⟩
  have s : Same H1 (upd H1 p (.lst vs)) := same_new hp
  exact up _ (.lst ds) _ _ (n1.trans (.same s)) (r1.same s) ⟨vs, upd_same, p1.step (A := fun _ => False) (Step.of_same s)⟩ (n1.kn p hp) (r1.fresh hp) q1.2
theorem pmo_dct : PMO X (.Dict [] [] pos) poDct := fun W tk => weakE pe_dnewK fun σ H Q => by
  rintro ⟨S, Q', E', rel, q, up, ux⟩
  intro p hp
  have s : Same H (upd H p (.dK [])) := same_new hp
  exact up _ (.dct [] []) _ _ (.same s) (rel.same s) ⟨[], upd_same, rfl, .nil⟩ hp (rel.fresh hp) q
/-- x = [..], x only this name's -/
def pSetO (i : Nat) (t : PTO) : PTS := fun P S => t S (fun o S1 => P.nx ⟨S1.ρ.set i (.own o), S1.W⟩) P.ex
theorem pms_setO {i : Nat} {t : PTO} {st : Stmt} (h : ∀ W, Takes X W → L2.PS X st (tAsg (lF X W t) (gName i))) : PMS X st (pSetO i t) := fun W tk => weakS (h W tk) fun D σ H => by
  rintro ⟨S, P, rel, q, up⟩
  refine ⟨S, _, _, rel, q, fun a o H1 S1 n1 r1 ow hn no q1 => ?_, up.ux⟩
  obtain ⟨r', oa⟩ := r1.putOwn (i := i) ow no
  refine up.nx _ _ _ ⟨n1.st, n1.kn, fun x h => ?_⟩ r' q1
  rcases oa x h with h | h
  · exact n1.oa x h
  · subst h; exact .inr hn
/-- a new own object as a value: its address -/
def updW (W : Addr → Option Own) (a : Addr) (o : Own) : Addr → Option Own := fun b => if b = a then some o else W b
def pNewW (t : PTO) : PTE := fun S Q E => t S (fun o S1 => ∀ a, S1.W a = none → Q (.adr a) ⟨S1.ρ, updW S1.W a o⟩) E
theorem pm_newW {t : PTO} (h : PMO X e t) : PM X e (pNewW t) := fun W tk => weakE (h W tk) fun σ H Q => by
  rintro ⟨S, Q', E', rel, q, up, ux⟩
  refine ⟨S, _, _, rel, q, fun a o H1 S1 n1 r1 ow hn no q1 => ?_, ux⟩
  have wn : S1.W a = none := by
    cases z : S1.W a with
    | none => rfl
    | some o => exact absurd (.inr (by rw [z]; exact fun y => nomatch y)) no
  refine up _ _ _ ⟨S1.ρ, updW S1.W a o⟩ ⟨n1.st, n1.kn, fun x h => ?_⟩ ⟨r1.len, r1.slot, r1.inj, fun b o2 h => ?_, fun j b h => ?_⟩ (.adr a) (q1 a wn)
  · rcases h with h | h
    · exact n1.oa x (.inl h)
    · by_cases hx : x = a
      · subst hx; exact .inr hn
      · have h' : (if x = a then some o else S1.W x) ≠ none := h
        rw [if_neg hx] at h'; exact n1.oa x (.inr h')
  · have h' : (if b = a then some o else S1.W b) = some o2 := h
    by_cases hb : b = a
    · subst hb; rw [if_pos rfl] at h'; cases h'; exact ow
    · rw [if_neg hb] at h'; exact r1.wor b o2 h'
  · show (if b = a then some o else S1.W b) = none
    have hb : b ≠ a := fun z => no (.inl ⟨j, z ▸ h⟩)
    rw [if_neg hb]; exact r1.dis j b h
end
end Pl
set_option Elab.async false
set_option linter.all false
set_option maxRecDepth 100000
set_option maxHeartbeats 4000000
/-! Pl, part 8: chains, calls by name, try -/
namespace Pl
open PySem PySem.Spec L2
open PyProof.Rows (envOfC)
section
variable {X : Cx} {a b c e : Expr} {ta tb tc te : PTE} {tk : PTK} {pos : Pos} {o o' : Op2}
/-- a < b < c -/
def pChain (o o' : Op2) (ta tb tc : PTE) : PTE := fun S Q E => ta S (fun x S1 => tb S1 (fun y S2 => o x y fun z => ∃ k, z = .bl k ∧ if k = true then tc S2 (fun w S3 => o' y w fun u => Q u S3) E else Q (.bl false) S2) E) E
theorem pm_chain {op op' : CmpOp} (ho : OpD X (compareOp op) o) (ho' : OpD X (compareOp op') o') (ha : PM X a ta) (hb : PM X b tb) (hc : PM X c tc) (hm : lastMarks [op, op'] [b, c] = false := by with_unfolding_all rfl) :
    PM X (.Compare a [op, op'] [b, c] pos) (pChain o o' ta tb tc) := fun W tk => by
  obtain ⟨r, hr, hl⟩ := ho
  obtain ⟨r', hr', hl'⟩ := ho'
  refine weakE (pe_chain hr hr' (ha W tk) (hb W tk) (hc W tk) hm) ?_
  rintro σ H Q ⟨S, Q', E', rel, q, up, ux⟩
  refine ⟨S, _, E', rel, q, fun v d H1 S1 n1 r1 p1 q1 => ?_, ux⟩
  refine ⟨S1, _, E', r1, q1, fun w e H2 S2 n2 r2 p2 q2 => ?_, ux.thn n1⟩
  refine hl H2 v w d e _ _ (p1.nx n2) p2 q2 fun z cz H3 s3 rz q3 => ?_
  obtain ⟨k, rfl, q3⟩ := q3
  cases rz
  refine ⟨k, rfl, ?_⟩
  have n3 : Nx σ S H σ S2 H3 := (n1.trans n2).trans (.same s3)
  cases k with
  | true =>
    refine ⟨S2, _, E', r2.same s3, q3, fun u cu H4 S4 n4 r4 p4 q4 => ?_, ux.thn n3⟩
    exact hl' H4 w u e cu Q _ ((p2.step (Step.of_same (A := fun _ => False) s3)).nx n4) p4 q4 (up.fin (n3.trans n4) r4)
  | false => exact up _ _ _ _ n3 (r2.same s3) (.bl _) q3
/-- len(x), x an own object or a value -/
def pLenK (tk : PTK) : PTE := fun S Q E => tk S (fun p S1 => lenC (con S1 p) fun z => Q z S1) E
theorem pm_lenK {p : Pos} (hg : Gl X "len") (hm : X.mg "len" = none) (ha : PK X a tk) (he : starEach [a] X.env = (false, eval a X.env) :: starEach [] X.env := by rfl) (hpl : (backTo pos (starEach [] X.env)).any (·.1) = false := by rfl) :
    PM X (.Call (.Name "len" p) [a] [] pos) (pLenK tk) := fun W t => weakE (pe_callB (CallR.or call_len_seq (CallR.or call_len_str (fun pins s σ H xs us Q I r (h : ∃ d kvs, xs = [.ref d] ∧ H d = some (.dK kvs) ∧ Q (.int kvs.length) H) => call_lenD pins s σ H xs us Q I r h))) hg hm PySem.boot_len (pa_cons (ha W t) pa_nil he) (by decide) (by decide) he hpl) fun σ H Q => by
  rintro ⟨S, Q', E', rel, q, up, ux⟩
  refine ⟨S, _, E', rel, q, fun v p H1 S1 n1 r1 p1 q1 => ?_, ux⟩
  have rc := con_rep r1 p1
  have f := up.fin n1 r1
  show _ ∨ _ ∨ _
  unfold lenC at q1
  split at q1
  · rename_i x hx
    rw [hx] at rc
    have rc : Rep X.K H1 v x := rc
    unfold oLen at q1
    split at q1
    · rename_i xs hh
      cases hh
      cases rc with
      | tup h ra => exact .inl ⟨_, _, rfl, .inr h, by rw [ra.length]; exact f.at (.int _) q1⟩
    · rename_i xs hh
      cases hh
      cases rc with
      | lst h ra => exact .inl ⟨_, _, rfl, .inl h.sq, by rw [ra.length]; exact f.at (.int _) q1⟩
    · rename_i z hh
      cases hh
      cases rc
      exact .inr (.inl ⟨_, rfl, q1.1, f.at (.int _) q1.2⟩)
    · exact q1.elim
  · rename_i xs hx
    rw [hx] at rc
    obtain ⟨a, rfl, ys, h, ra⟩ := rc
    exact .inl ⟨_, _, rfl, .inl (.of h), by rw [ra.length]; exact f.at (.int _) q1⟩
  · rename_i ks vs hx
    rw [hx] at rc
    obtain ⟨a, rfl, kvs, h, rfl, ra⟩ := rc
    rw [List.length_map] at q1
    exact .inr (.inr ⟨a, kvs, rfl, h, f.at (.int _) q1⟩)
  · exact q1.elim
end
/-! ### defs by name -/
structure TopD (K : PySem.W.Frag) (mg : Str → Option Value) (x : Str) (ps : List Str) (st : Stmt) : Prop where
  ex : ∃ f fd, Fun K x x st f fd ∧ mg x = some (.ref f) ∧ Binds K fd ps []
structure CallF (P : Program) (w : World) (K : PySem.W.Frag) (mg : Str → Option Value) (base : Heap) (x : Str) (n k : Nat) (φ : PFn) : Prop where
  ex : ∃ f fd ps, FnOk P w K mg base (L2.CX P w) k f fd ps (spP K n φ) ∧ mg x = some (.ref f) ∧ PySem.W.keepIn K (.ref f) = true ∧ Binds K fd ps []
section
variable {P : Program} {w : World} {K : PySem.W.Frag} {mg : Str → Option Value} {base : Heap}
theorem CallF.wk {x : Str} {n k : Nat} {φ ψ : PFn} (c : CallF P w K mg base x n k φ) (h : ∀ ds Wo Q E, ψ ds Wo Q E → φ ds Wo Q E) : CallF P w K mg base x n k ψ := by
  obtain ⟨f, fd, ps, F, r⟩ := c.ex
  exact ⟨f, fd, ps, FnOk.wk F h, r⟩
theorem CallF.up {x : Str} {n k j : Nat} {φ : PFn} (c : CallF P w K mg base x n k φ) (h : k ≤ j) : CallF P w K mg base x n j φ := by
  obtain ⟨f, fd, ps, F, r⟩ := c.ex
  exact ⟨f, fd, ps, F.mono h, r⟩
theorem call_of {x : Str} {st : Stmt} {N ps : List Str} {k : Nat} {φ : PFn} (T : TopD K mg x ps st) (S : FnScope N ps (defScope st))
    (hbody : ∀ (f : Addr) (cdv : Value) (A : Around) (outer : List Env) (s : Shared) (H : Hp) (E : XK), Room k (A.deeper (envOfC x (defScope st) s.heap.objs.size f cdv)) →
      ∃ t, PMSs (cxOf (L2.CX P w) P w K mg base N x (defScope st) f cdv A outer s H E) (defBody st) t ∧
        ∀ ds Wo Q E', ds.length = ps.length → φ ds Wo Q E' → t { nx := fun S => Q .non S.W, rt := fun d S => Q d S.W, ex := fun x S => E' x S.W } ⟨start0 N.length ds, Wo⟩) :
    CallF P w K mg base x ps.length (k + 1) φ := by
  obtain ⟨f, fd, F, hm, hb⟩ := T.ex
  exact ⟨f, fd, ps, ok_of F S (hbody f), hm, F.kp, hb⟩
end
section
variable {X : Cx} {n k : Nat} {φ : PFn} {x : Str} {p pos : Pos} {e : Expr} {es : List Expr} {t : PTA}
theorem pm_callF (c : CallF X.prog X.w X.K X.mg X.base x n k φ) (hr : Room k X.A) (hg : Gl X x) (ha : PMA X (e :: es) t) (hdb : (x == ("__debug__" : Str)) = false := by decide)
    (he : starEach (e :: es) X.env = (false, eval e X.env) :: starEach es X.env := by rfl) (hpl : (backTo pos (starEach es X.env)).any (·.1) = false := by rfl) : PM X (.Call (.Name x p) (e :: es) [] pos) (pCall n φ t) := by
  obtain ⟨f, fd, ps, F, hm, hk, hb⟩ := c.ex
  exact pm_call F hr hg hm hk hb ha hdb he hpl
end
/-! ### raise and try of own exception classes -/
/-- what the top says of an own exception class (without its own __init__) -/
structure ExC (K : PySem.W.Frag) (mg : Str → Option Value) (x : Str) (C : Addr) : Prop where
  gP : mg x = some (.ref C)
  xP : PySem.W.excIn K C [.type "ValueError", .type "Exception", .type "BaseException", .type "object"] "ValueError.__new__" = true
  kP : PySem.W.keepIn K (.ref C) = true
  bP : PySem.W.subIn K (.ref C) (.type "BaseException") = some true
  tP : PySem.W.typeIn K (.ref C) = some (.type "type")
section
variable {X : Cx} {C : Addr} {x m : Str} {j : Nat} {p p2 pos pos' : Pos}
/-- raise X('..') -/
theorem pms_raiseOwn (hc : X.calm = true) (T : ExC X.K X.mg x C) (hg : Gl X x) (hdb : (x == ("__debug__" : Str)) = false := by decide) : PMS X (.Raise (some (.Call (.Name x p) [.Constant (.str m) j p2] [] pos)) none pos') (pRaise ⟨.ref C, none⟩) :=
  pms_raise fun W tk => ps_raise hc tk (pmk_own PySem.F.excBase_ValueError T.xP T.gP T.kP (raises_own T.bP T.tP) hg hdb)
/-- a slot forgotten -/
theorem Rel.drop {K : PySem.W.Frag} {H : Hp} {σ : St} {S : Sta} {i : Nat} (r : Rel K H σ S) : Nx σ S H (σ.set i none) ⟨S.ρ.set i .emp, S.W⟩ H ∧ Rel K H (σ.set i none) ⟨S.ρ.set i .emp, S.W⟩ := by
  have back : ∀ j b, OwnS (σ.set i none) (S.ρ.set i .emp) j b → OwnS σ S.ρ j b := fun j b h => by
    obtain ⟨⟨o', h1⟩, h2⟩ := h
    by_cases hj : j = i
    · subst hj
      by_cases hl : j < S.ρ.length
      · rw [List.getElem?_set_self hl] at h1; cases h1
      · rw [List.getElem?_eq_none (by simpa using hl)] at h1; cases h1
    · rw [List.getElem?_set_ne (Ne.symm hj)] at h1 h2
      exact ⟨⟨o', h1⟩, h2⟩
  refine ⟨⟨Step.refl, fun _ h => h, fun x h => .inl ?_⟩, ⟨by simpa using r.len, fun j s es => ?_, fun j k b h1 h2 => r.inj j k b (back _ _ h1) (back _ _ h2), r.wor, fun j b h => r.dis j b (back _ _ h)⟩⟩
  · rcases h with ⟨j, h⟩ | h
    · exact .inl ⟨j, back j x h⟩
    · exact .inr h
  · have es' : (S.ρ.set i .emp)[j]? = some s := es
    by_cases hj : j = i
    · subst hj
      by_cases hl : j < S.ρ.length
      · rw [List.getElem?_set_self hl] at es'; cases es'; trivial
      · rw [List.getElem?_eq_none (by simpa using hl)] at es'; cases es'
    · rw [List.getElem?_set_ne (Ne.symm hj)] at es'
      have q := r.slot j s es'
      have e2 : (σ.set i none)[j]? = σ[j]? := List.getElem?_set_ne (Ne.symm hj)
      rw [e2]; exact q
/-- a suite: what is caught is x -/
def lX (X : Cx) (ts : Exn → PTS) (cls : Value) (d : Option Addr) : TS := fun D σ H => ∃ S P x, Rel X.K H σ S ∧ XR X.K H x cls d ∧ ts x P S ∧ UpD X.K σ S H (fun _ _ _ _ => False) D P
def pTry (m : Value → Bool → Prop) (tb : PTS) (ts : Exn → PTS) : PTS := fun P S => tb { P with ex := fun x S1 => ∃ b, m x.cls b ∧ (b = true → ts x { P with ex := noX } S1) ∧ (b = false → P.ex x S1) } S
def pTryAs (m : Value → Bool → Prop) (i : Nat) (tb : PTS) (ts : Addr → Exn → PTS) : PTS := fun P S => tb { P with ex := fun x S1 => ∃ b, m x.cls b ∧
  (b = true → ∀ a, ts a x { nx := fun S2 => P.nx ⟨S2.ρ.set i .emp, S2.W⟩, rt := P.rt, bk := fun S2 => P.bk ⟨S2.ρ.set i .emp, S2.W⟩, ct := fun S2 => P.ct ⟨S2.ρ.set i .emp, S2.W⟩, ex := noX } ⟨S1.ρ.set i (.val (.adr a)), S1.W⟩) ∧ (b = false → P.ex x S1) } S
variable {c : Value} {body suite : List Stmt} {b₀ : Stmt} {np : Pos} {tb : PTS} {ts : Exn → PTS} {m : Value → Bool → Prop}
theorem pms_try (hs : X.stack = X.env :: X.outer) (hf : X.env.frame = some X.env.locals) (hc : Names X x c) (hm : ∀ cls b, m cls b → PySem.W.exmOne X.K cls c = some b)
    (hb : ∀ (pn : List (Addr × Obj)) (xe : Value → Shared → Prop), PassesOwn (model X.prog X.w) X.A X.env xe → PMSs (X.tr pn xe) body tb)
    (hsu : ∀ (a : Addr) (oe : Obj) (d : Option Addr) (pn : List (Addr × Obj)) (x : Exn), Zc x.cls d oe → (∃ vs, oe.data = .fields vs) → (x.line = none → d = none) → PMSs (X.suite a ((a, oe) :: pn)) (b₀ :: suite) (ts x)) :
    PMS X (.Try body [.ExceptHandler (some (.Name x np)) none (b₀ :: suite) pos'] [] [] pos) (pTry m tb ts) := fun W tk =>
  weakS (ps_try_only (tb := fun W => lS X W tb) (ts := fun _ cls d => lX X ts cls d) hs hf hc tk (fun W pn xe t hp => hb pn xe hp W t) (fun a oe cls d pn hz hf => ⟨fun pins s σ H D I q => by
      obtain ⟨S, P, x, rel, xr, q, up⟩ := q
      have ex : x.cls = cls := xr.1
      subst ex
      refine (hsu a oe d pn x hz hf (fun e => ?_) (fun _ _ _ _ => False) takes0).run pins s σ H D I ⟨S, P, rel, q, up⟩
      have h2 := xr.2
      rw [e] at h2
      exact h2⟩)) fun D σ H => by
    rintro ⟨S, P, rel, q, up⟩
    refine ⟨S, _, rel, q, ⟨up.nx, up.rt, up.bk, up.ct, fun x cls dd σ' H' S' n r xr h => ?_⟩⟩
    obtain ⟨b, h1, h2, h3⟩ := h
    have ex : x.cls = cls := xr.1
    subst ex
    have u := up.thn n
    exact ⟨b, hm _ _ h1, fun hb a _ => ⟨S', _, x, r, xr, h2 hb, ⟨u.nx, u.rt, u.bk, u.ct, fun _ _ _ _ _ _ _ _ _ z => z.elim⟩⟩, fun hb => up.ex x _ dd σ' H' S' n r xr (h3 hb)⟩
theorem pms_tryAs {ts : Addr → Exn → PTS} {i : Nat} {nm : Str} (hs : X.stack = X.env :: X.outer) (hf : X.env.frame = some X.env.locals) (hN : X.N.Nodup) (hi : X.N[i]? = some nm) (hln : X.env.kindOf nm = some .local) (hc : Names X x c) (hm : ∀ cls b, m cls b → PySem.W.exmOne X.K cls c = some b)
    (hb : ∀ (pn : List (Addr × Obj)) (xe : Value → Shared → Prop), PassesOwn (model X.prog X.w) X.A X.env xe → PMSs (X.tr pn xe) body tb)
    (hsu : ∀ (a : Addr) (oe : Obj) (d : Option Addr) (pn : List (Addr × Obj)) (x : Exn), Zc x.cls d oe → (∃ vs, oe.data = .fields vs) → (x.line = none → d = none) → PMSs (X.suite a ((a, oe) :: pn)) (b₀ :: suite) (ts a x)) :
    PMS X (.Try body [.ExceptHandler (some (.Name x np)) (some nm) (b₀ :: suite) pos'] [] [] pos) (pTryAs m i tb ts) := fun W tk =>
  weakS (ps_try_as (tb := fun W => lS X W tb) (ts := fun a cls d => lX X (ts a) cls d) hs hf hN hi hln hc tk (fun W pn xe t hp => hb pn xe hp W t) (fun a oe cls d pn hz hf => ⟨fun pins s σ H D I q => by
      obtain ⟨S, P, x, rel, xr, q, up⟩ := q
      have ex : x.cls = cls := xr.1
      subst ex
      refine (hsu a oe d pn x hz hf (fun e => ?_) (fun _ _ _ _ => False) takes0).run pins s σ H D I ⟨S, P, rel, q, up⟩
      have h2 := xr.2
      rw [e] at h2
      exact h2⟩)) fun D σ H => by
    rintro ⟨S, P, rel, q, up⟩
    refine ⟨S, _, rel, q, ⟨up.nx, up.rt, up.bk, up.ct, fun x cls dd σ' H' S' n r xr h => ?_⟩⟩
    obtain ⟨b, h1, h2, h3⟩ := h
    have ex : x.cls = cls := xr.1
    subst ex
    refine ⟨b, hm _ _ h1, fun hb a _ => ?_, fun hb => up.ex x _ dd σ' H' S' n r xr (h3 hb)⟩
    obtain ⟨np, rp⟩ := r.put (i := i) (Rep.adr (K := X.K) (H := H') a)
    have u := up.thn (n.trans np)
    refine ⟨_, _, x, rp, xr, h2 hb a, ⟨fun σ2 H2 S2 n2 r2 q2 => ?_, u.rt, fun σ2 H2 S2 n2 r2 q2 => ?_, fun σ2 H2 S2 n2 r2 q2 => ?_, fun _ _ _ _ _ _ _ _ _ z => z.elim⟩⟩
    · obtain ⟨n3, r3⟩ := r2.drop (i := i)
      exact u.nx _ _ _ (n2.trans n3) r3 q2
    · obtain ⟨n3, r3⟩ := r2.drop (i := i)
      exact u.bk _ _ _ (n2.trans n3) r3 q2
    · obtain ⟨n3, r3⟩ := r2.drop (i := i)
      exact u.ct _ _ _ (n2.trans n3) r3 q2
/-- isinstance(e, C), e the exception of the suite -/
def oIsE (K : PySem.W.Frag) (a : Addr) (x : Exn) : OpN := fun ds Q => ∃ c D b, ds = [.adr a, .adr c] ∧ x = ⟨.ref D, none⟩ ∧ ExcC K D ∧ PySem.W.kitOne K (.ref D) (.ref c) = some b ∧ Q (.bl b)
theorem cd_isE {a : Addr} {oe : Obj} {d : Option Addr} {pn : List (Addr × Obj)} {x : Exn} (hz : Zc x.cls d oe) (hf : ∃ vs, oe.data = .fields vs) (hl : x.line = none → d = none) : CallD (X.suite a ((a, oe) :: pn)) (.builtin "isinstance") (oIsE X.K a x) := by
  refine ⟨fun xs H Q => ∃ D, ExcC X.K D ∧ x = ⟨.ref D, none⟩ ∧ rIsE X.K D a xs H Q, fun pins s σ H xs us Q I r h => ?_, fun H xs ds Q Q' r o f => ?_⟩
  · obtain ⟨D, hD, rfl, h⟩ := h
    cases hl rfl
    exact call_isE hD hz hf pins s σ H xs us Q I r h
  · obtain ⟨c, D, b, rfl, hx, hD, hk, q⟩ := o
    obtain ⟨v, w, rfl, r1, r2⟩ := rep2 r
    cases r1
    cases r2
    exact ⟨D, hD, hx, _, _, b, rfl, fun u ru => by cases ru; rfl, hk, f.at (.bl _) q⟩
end
end Pl
set_option Elab.async false
set_option linter.all false
set_option maxRecDepth 100000
set_option maxHeartbeats 4000000
/-! Pl, part 9: globals, rooms, small words -/
namespace Pl
open PySem PySem.Spec L2
open PyProof.Rows (envOfC)
/-- a module's constant: an int, a text, a table of texts -/
def GI (mg : Str → Option Value) (x : Str) (i : Int) : Prop := ∃ t, mg x = some (.int i t)
def GS (mg : Str → Option Value) (x : Str) (z : Str) : Prop := ∃ t, mg x = some (.str z t)
def GT (K : PySem.W.Frag) (w : World) (mg : Str → Option Value) (x : Str) (tab : List (Str × D)) : Prop := ∃ p, mg x = some (.ref p) ∧ ∀ z d, tab.lookup z = some d → ∃ v, KDct K w p z v ∧ ∀ H, Rep K H v d
section
variable {X : Cx} {x : Str} {pos p : Pos} {i : Int} {a b : Expr} {tb : PTE}
theorem pm_gi (h : GI X.mg x i) (hg : Gl X x) (hd : (x == ("__debug__" : Str)) = false := by decide) : PM X (.Name x pos) (pC (.int i)) := by
  obtain ⟨t, h⟩ := h
  exact pm_glob hg h (v := .int i) ⟨t, rfl⟩ (fun _ => .int i) hd
theorem pm_gs {z : Str} (h : GS X.mg x z) (hg : Gl X x) (hd : (x == ("__debug__" : Str)) = false := by decide) : PM X (.Name x pos) (pC (.str z)) := by
  obtain ⟨t, h⟩ := h
  exact pm_glob hg h (v := .str z) ⟨t, rfl⟩ (fun _ => .str z) hd
/-- an own class: a global name -/
theorem pm_gr {y : Str} {C : Addr} (h : X.mg y = some (.ref C)) (hg : Gl X y) (hd : (y == ("__debug__" : Str)) = false := by decide) : PM X (.Name y pos) (pC (.adr C)) := pm_glob hg h (v := .ref C) rfl (fun _ => .adr C) hd
/-- a builtin class as a value -/
theorem pm_ty {x : String} (hg : Gl X x) (hm : X.mg x = none) (hv : bootBuiltins x = some (.type x)) (hn : (x : Str) ≠ "__name__" := by decide) (hd : ((x : Str) == ("__debug__" : Str)) = false := by decide) : PM X (.Name x pos) (pC (.ty x)) :=
  pm_c (pe_bltn hg hm hv (v := .ty x) rfl hn hd) fun _ => .ty x
/-- TABLE[e] -/
def pTabG (tab : List (Str × D)) (tb : PTE) : PTE := fun S Q E => tb S (fun y S1 => ∃ (z : Str) (d : D), y = D.str z ∧ tab.lookup z = some d ∧ Q d S1) E
theorem pm_tabG {tab : List (Str × D)} (h : GT X.K X.w X.mg x tab) (hg : Gl X x) (hb : PM X b tb) (hpi : PlainIx b) (hd : (x == ("__debug__" : Str)) = false := by decide) : PM X (.Subscript (.Name x p) b pos) (pTabG tab tb) := by
  obtain ⟨q, hm, ht⟩ := h
  have := pm_tab ht (pm_glob (pos := p) hg hm (v := .ref q) rfl (fun _ => .adr q) hd) hb hpi (pos := pos)
  intro W tk
  refine weakE (this W tk) fun σ H Q => ?_
  rintro ⟨S, Q', E', rel, z, up, ux⟩
  refine ⟨S, Q', E', rel, ?_, up, ux⟩
  show tb S (fun y S1 => D.adr q = .adr q ∧ _) E'
  have e : (fun y S1 => D.adr q = .adr q ∧ ∃ (z : Str) (d : D), y = D.str z ∧ tab.lookup z = some d ∧ Q' d S1) = fun y S1 => ∃ (z : Str) (d : D), y = D.str z ∧ tab.lookup z = some d ∧ Q' d S1 := by
    funext y S1; simp
  rw [e]
  exact z
end
theorem Room.hu64 {k : Nat} {A : Around} (r : Room k A) : A.units + 64 < cLine := r.units
theorem Room.hu65 {k : Nat} {A : Around} (r : Room k A) : A.units + 65 < cLine := by have := r.un; omega
theorem Room.hu1 {k : Nat} {A : Around} (r : Room k A) : A.units + 1 < cLine := by have := r.un; omega
end Pl
set_option Elab.async false
set_option linter.all false
set_option maxRecDepth 100000
set_option maxHeartbeats 4000000
/-! Pl, part 10: facts about data -/
namespace Pl
open PySem PySem.Spec L2
def eqDs (xs ys : List D) : Bool := PyData.eqvAll (D.pys xs) (D.pys ys)
theorem eqD_str (a b : Str) : eqD (.str a) (.str b) = (a == b) := by simp only [eqD, D.py, PyData.eqv]
theorem eqD_int (a b : Int) : eqD (.int a) (.int b) = (a == b) := by simp only [eqD, D.py, PyData.eqv]
theorem eqD_bl (a b : Bool) : eqD (.bl a) (.bl b) = (a == b) := by simp only [eqD, D.py, PyData.eqv]
theorem eqD_non : eqD .non .non = true := by simp only [eqD, D.py, PyData.eqv]
theorem eqD_tup (a b : List D) : eqD (.tup a) (.tup b) = eqDs a b := by simp only [eqD, D.py, PyData.eqv, eqDs]
theorem eqD_lst (a b : List D) : eqD (.lst a) (.lst b) = eqDs a b := by simp only [eqD, D.py, PyData.eqv, eqDs]
theorem eqDs_nil : eqDs [] [] = true := by simp only [eqDs, D.pys, PyData.eqvAll]
theorem eqDs_cons (a b : D) (r s : List D) : eqDs (a :: r) (b :: s) = (eqD a b && eqDs r s) := by simp only [eqDs, D.pys, PyData.eqvAll, eqD]
theorem eqDs_nc (b : D) (s : List D) : eqDs [] (b :: s) = false := by simp only [eqDs, D.pys, PyData.eqvAll]
theorem eqDs_cn (b : D) (s : List D) : eqDs (b :: s) [] = false := by simp only [eqDs, D.pys, PyData.eqvAll]
theorem eqDs_nil_r (a : List D) : eqDs a [] = a.isEmpty := by cases a with
  | nil => exact eqDs_nil
  | cons b r => exact eqDs_cn b r
theorem eqDs_nil_l (a : List D) : eqDs [] a = a.isEmpty := by cases a with
  | nil => exact eqDs_nil
  | cons b r => exact eqDs_nc b r
theorem eqD_si (a : Str) (b : Int) : eqD (.str a) (.int b) = false := by simp only [eqD, D.py, PyData.eqv]
theorem eqD_is (a : Str) (b : Int) : eqD (.int b) (.str a) = false := by simp only [eqD, D.py, PyData.eqv]
theorem eqD_tl (a b : List D) : eqD (.tup a) (.lst b) = false := by simp only [eqD, D.py, PyData.eqv]
theorem eqD_lt (a b : List D) : eqD (.lst a) (.tup b) = false := by simp only [eqD, D.py, PyData.eqv]
/-- a text against anything -/
theorem eqD_x_str (x : D) (b : Str) : eqD x (.str b) = match x with
  | .str a => a == b
  | _ => false := by cases x <;> simp only [eqD, D.py, PyData.eqv]
theorem eqD_str_x (x : D) (b : Str) : eqD (.str b) x = match x with
  | .str a => b == a
  | _ => false := by cases x <;> simp only [eqD, D.py, PyData.eqv]
mutual
theorem eqD_refl : ∀ d : D, d.plain = true → eqD d d = true
  | .non, _ => eqD_non
  | .bl b, _ => by rw [eqD_bl]; simp
  | .int i, _ => by rw [eqD_int]; simp
  | .str x, _ => by rw [eqD_str]; simp
  | .tup xs, h => by rw [eqD_tup]; exact eqDs_refl xs (by simpa [D.plain] using h)
  | .lst xs, h => by rw [eqD_lst]; exact eqDs_refl xs (by simpa [D.plain] using h)
  | .dct _ _, h => by simp [D.plain] at h
  | .adr _, h => by simp [D.plain] at h
  | .ty _, h => by simp [D.plain] at h
theorem eqDs_refl : ∀ ds : List D, D.plains ds = true → eqDs ds ds = true
  | [], _ => eqDs_nil
  | d :: r, h => by
    simp only [D.plains, Bool.and_eq_true] at h
    rw [eqDs_cons, eqD_refl d h.1, eqDs_refl r h.2]; rfl
end
theorem dat_non  : D.dat  .non = true := rfl
theorem dat_bl (b : Bool) : D.dat (.bl b) = true := rfl
theorem dat_int (i : Int) : D.dat (.int i) = true := rfl
theorem dat_str (x : Str) : D.dat (.str x) = true := rfl
theorem dat_tup (xs : List D) : D.dat (.tup xs) = true := rfl
theorem dat_lst (xs : List D) : D.dat (.lst xs) = true := rfl
theorem isInt_non  : D.isInt  .non = false := rfl
theorem isInt_bl (b : Bool) : D.isInt (.bl b) = true := rfl
theorem isInt_int (i : Int) : D.isInt (.int i) = true := rfl
theorem isInt_str (x : Str) : D.isInt (.str x) = false := rfl
theorem isInt_tup (xs : List D) : D.isInt (.tup xs) = false := rfl
theorem isInt_lst (xs : List D) : D.isInt (.lst xs) = false := rfl
theorem isBool_non  : D.isBool  .non = false := rfl
theorem isBool_bl (b : Bool) : D.isBool (.bl b) = true := rfl
theorem isBool_int (i : Int) : D.isBool (.int i) = false := rfl
theorem isBool_str (x : Str) : D.isBool (.str x) = false := rfl
theorem isBool_tup (xs : List D) : D.isBool (.tup xs) = false := rfl
theorem isBool_lst (xs : List D) : D.isBool (.lst xs) = false := rfl
theorem isStr_non  : D.isStr  .non = false := rfl
theorem isStr_bl (b : Bool) : D.isStr (.bl b) = false := rfl
theorem isStr_int (i : Int) : D.isStr (.int i) = false := rfl
theorem isStr_str (x : Str) : D.isStr (.str x) = true := rfl
theorem isStr_tup (xs : List D) : D.isStr (.tup xs) = false := rfl
theorem isStr_lst (xs : List D) : D.isStr (.lst xs) = false := rfl
theorem isTup_non  : D.isTup  .non = false := rfl
theorem isTup_bl (b : Bool) : D.isTup (.bl b) = false := rfl
theorem isTup_int (i : Int) : D.isTup (.int i) = false := rfl
theorem isTup_str (x : Str) : D.isTup (.str x) = false := rfl
theorem isTup_tup (xs : List D) : D.isTup (.tup xs) = true := rfl
theorem isTup_lst (xs : List D) : D.isTup (.lst xs) = false := rfl
theorem isLst_non  : D.isLst  .non = false := rfl
theorem isLst_bl (b : Bool) : D.isLst (.bl b) = false := rfl
theorem isLst_int (i : Int) : D.isLst (.int i) = false := rfl
theorem isLst_str (x : Str) : D.isLst (.str x) = false := rfl
theorem isLst_tup (xs : List D) : D.isLst (.tup xs) = false := rfl
theorem isLst_lst (xs : List D) : D.isLst (.lst xs) = true := rfl
theorem sz_0 : (0 ≤ sizeLine) = True := eq_true (by decide)
theorem sz_1 : (1 ≤ sizeLine) = True := eq_true (by decide)
theorem sz_2 : (2 ≤ sizeLine) = True := eq_true (by decide)
theorem sz_3 : (3 ≤ sizeLine) = True := eq_true (by decide)
theorem sz_4 : (4 ≤ sizeLine) = True := eq_true (by decide)
theorem sz_5 : (5 ≤ sizeLine) = True := eq_true (by decide)
theorem sz_6 : (6 ≤ sizeLine) = True := eq_true (by decide)
theorem sz_7 : (7 ≤ sizeLine) = True := eq_true (by decide)
theorem sz_8 : (8 ≤ sizeLine) = True := eq_true (by decide)
theorem sz_9 : (9 ≤ sizeLine) = True := eq_true (by decide)
theorem sz_10 : (10 ≤ sizeLine) = True := eq_true (by decide)
theorem sz_11 : (11 ≤ sizeLine) = True := eq_true (by decide)
theorem sz_12 : (12 ≤ sizeLine) = True := eq_true (by decide)
/-! ### good data -/
theorem plains_all : ∀ xs : List D, D.plains xs = xs.all D.plain
  | [] => rfl
  | x :: r => by simp only [D.plains, List.all_cons, plains_all r]
theorem deps_mem : ∀ {xs : List D} {x : D}, x ∈ xs → x.dep ≤ D.deps xs
  | y :: r, x, h => by
    rcases List.mem_cons.mp h with rfl | h
    · simp only [D.deps]; omega
    · have := deps_mem h; simp only [D.deps]; omega
theorem deps_le : ∀ {xs : List D} {n : Nat}, (∀ x ∈ xs, x.dep ≤ n) → D.deps xs ≤ n
  | [], _, _ => Nat.zero_le _
  | y :: r, n, h => by
    have h1 := h y (List.mem_cons_self ..)
    have h2 := deps_le (xs := r) fun x hx => h x (List.mem_cons_of_mem _ hx)
    simp only [D.deps]; omega
/-- data of depth at most n -/
def D.gd (n : Nat) (d : D) : Bool := d.plain && decide (d.dep ≤ n)
theorem gd_good {n : Nat} {d : D} (h : d.gd n = true) (hn : n ≤ 60 := by decide) : d.good = true := by
  simp only [D.gd, D.good, Bool.and_eq_true, decide_eq_true_eq] at *
  exact ⟨h.1, by omega⟩
theorem gd_mono {n m : Nat} {d : D} (h : d.gd n = true) (hn : n ≤ m) : d.gd m = true := by
  simp only [D.gd, Bool.and_eq_true, decide_eq_true_eq] at *
  exact ⟨h.1, by omega⟩
theorem gd_tup {n : Nat} {xs : List D} : D.gd (n + 1) (.tup xs) = xs.all (D.gd n) := by
  rw [Bool.eq_iff_iff]
  simp only [D.gd, D.plain, D.dep, Bool.and_eq_true, decide_eq_true_eq, plains_all, List.all_eq_true]
  constructor
  · rintro ⟨h1, h2⟩ x hx
    have := deps_mem hx
    exact ⟨h1 x hx, Nat.le_trans this (Nat.le_of_succ_le_succ (of_decide_eq_true h2))⟩
  · intro h
    refine ⟨fun x hx => (h x hx).1, ?_⟩
    have := deps_le (xs := xs) (n := n) fun x hx => (h x hx).2
    exact decide_eq_true (Nat.succ_le_succ this)
theorem gd_lst {n : Nat} {xs : List D} : D.gd (n + 1) (.lst xs) = xs.all (D.gd n) := by
  have := gd_tup (n := n) (xs := xs)
  simpa [D.gd, D.plain, D.dep] using this
theorem good_tup {xs : List D} (h : D.good (.tup xs) = true) : ∀ x ∈ xs, x.good = true := fun x hx => by
  have h' : D.gd (59 + 1) (.tup xs) = true := h
  rw [gd_tup, List.all_eq_true] at h'
  exact gd_good (h' x hx)
theorem good_lst {xs : List D} (h : D.good (.lst xs) = true) : ∀ x ∈ xs, x.good = true := fun x hx => by
  have h' : D.gd (59 + 1) (.lst xs) = true := h
  rw [gd_lst, List.all_eq_true] at h'
  exact gd_good (h' x hx)
theorem good_dat {d : D} (h : d.good = true) : d.dat = true := by
  cases d <;> first | rfl | simp [D.good, D.plain] at h
theorem good_int (i : Int) : D.good (.int i) = true := rfl
theorem good_bl (i : Bool) : D.good (.bl i) = true := rfl
theorem good_non : D.good .non = true := rfl
theorem good_str {x : Str} (h : PyData.strOk x = true) : D.good (.str x) = true := by simp [D.good, D.plain, D.dep, h]
theorem str_good {x : Str} (h : D.good (.str x) = true) : PyData.strOk x = true := by simpa [D.good, D.plain, D.dep] using h
theorem good_nil : D.good (.tup []) = true := rfl
theorem good_nilL : D.good (.lst []) = true := rfl
theorem good_sub {xs ys : List D} (h : D.good (.tup xs) = true) (hs : ∀ y ∈ ys, y ∈ xs) : D.good (.tup ys) = true := by
  have h' : D.gd (59 + 1) (.tup xs) = true := h
  show D.gd (59 + 1) (.tup ys) = true
  rw [gd_tup, List.all_eq_true] at *
  exact fun y hy => h' y (hs y hy)
/-- slices -/
theorem cut_from (xs : List D) (n : Nat) (h : n ≤ xs.length) : cutD xs (some n) none = xs.drop n := by
  unfold cutD
  rw [HT.sIx_nat, HT.sIx_none, Nat.min_eq_left h]
  exact List.take_of_length_le (by rw [List.length_drop]; exact Nat.le_refl _)
theorem cut_to (xs : List D) (n : Nat) (h : n ≤ xs.length) : cutD xs none (some n) = xs.take n := by
  unfold cutD
  rw [HT.sIx_nat, HT.sIx_none, Nat.min_eq_left h, List.drop_zero, Nat.sub_zero]
theorem cut_toN (xs : List D) (n : Nat) : cutD xs none (some n) = xs.take n := by
  unfold cutD
  rw [HT.sIx_nat, HT.sIx_none, List.drop_zero, Nat.sub_zero]
  by_cases h : n ≤ xs.length
  · rw [Nat.min_eq_left h]
  · rw [Nat.min_eq_right (by omega), List.take_of_length_le (Nat.le_refl _), List.take_of_length_le (by omega)]
theorem cut_fromN (xs : List D) (n : Nat) : cutD xs (some n) none = xs.drop n := by
  by_cases h : n ≤ xs.length
  · exact cut_from xs n h
  · unfold cutD
    rw [HT.sIx_nat, HT.sIx_none, Nat.min_eq_right (by omega), List.drop_of_length_le (Nat.le_refl _), List.drop_of_length_le (by omega)]
    simp
theorem cut_to1 (xs : List D) : cutD xs none (some 1) = xs.take 1 := cut_toN xs 1
theorem cut_to2 (xs : List D) : cutD xs none (some 2) = xs.take 2 := cut_toN xs 2
theorem cut_to3 (xs : List D) : cutD xs none (some 3) = xs.take 3 := cut_toN xs 3
theorem cut_from1 (xs : List D) : cutD xs (some 1) none = xs.drop 1 := cut_fromN xs 1
theorem cut_from2 (xs : List D) : cutD xs (some 2) none = xs.drop 2 := cut_fromN xs 2
theorem cut_from3 (xs : List D) : cutD xs (some 3) none = xs.drop 3 := cut_fromN xs 3
theorem at0 (x : D) (r : List D) : atI (x :: r) 0 = some x := atI_nat (j := 0) rfl
theorem at1 (x y : D) (r : List D) : atI (x :: y :: r) 1 = some y := atI_nat (j := 1) rfl
theorem at2 (x y z : D) (r : List D) : atI (x :: y :: z :: r) 2 = some z := atI_nat (j := 2) rfl
theorem at3 (x y z u : D) (r : List D) : atI (x :: y :: z :: u :: r) 3 = some u := atI_nat (j := 3) rfl
theorem at4 (x y z u t : D) (r : List D) : atI (x :: y :: z :: u :: t :: r) 4 = some t := atI_nat (j := 4) rfl
/-- a loop that builds a list, element by element: the elements' promise gives f -/
theorem lcW_map {g : PTG} {te : PTE} {vs : List Nat} {Q : PQ} {f : D → D} {S : Sta} : ∀ (xs acc : List D), (∀ x ∈ xs, ∀ Q' : PQ, (∀ S', wipS S' vs = S → Q' (f x) S') → g x S fun S2 => te S2 Q' noX) → acc.length + xs.length ≤ sizeLine → Q (.lst (acc ++ xs.map f)) S → lcW g pYes te vs Q xs acc S
  | [], acc, _, _, q => by
    show Q (.lst acc) S
    simpa using q
  | x :: r, acc, h, hz, q => by
    simp only [List.length_cons] at hz
    have mono : ∀ {t : PTE}, True := trivial
    refine h x (List.mem_cons_self ..) (fun y S4 => acc.length < sizeLine ∧ lcW g pYes te vs Q r (acc ++ [y]) (wipS S4 vs)) fun S' e => ⟨by omega, ?_⟩
    rw [e]
    exact lcW_map r (acc ++ [f x]) (fun y hy => h y (List.mem_cons_of_mem _ hy)) (by rw [List.length_append]; simp only [List.length_singleton]; omega) (by simpa using q)
/-- nothing is promised -/
theorem call_none {P : Program} {w : World} {K : PySem.W.Frag} {mg : Str → Option Value} {base : Heap} {x : Str} {ps : List Str} {st : Stmt} {k : Nat} (T : TopD K mg x ps st) : CallF P w K mg base x ps.length k (fun _ _ _ _ => False) := by
  obtain ⟨f, fd, F, hm, hb⟩ := T.ex
  refine ⟨f, fd, ps, ⟨fun vs H Q E h => ?_, fun A outer s H args us vs Q E _ _ _ _ h => ?_⟩, hm, F.kp, hb⟩
  · obtain ⟨_, _, _, _, h, _⟩ := h; exact h
  · obtain ⟨_, _, _, _, _, _, _, h, _⟩ := h; exact h.elim
theorem wipS_mk (ρ : List Slot) (W : Addr → Option Own) (vs : List Nat) : wipS ⟨ρ, W⟩ vs = ⟨vs.foldr (fun v ρ => ρ.set v .emp) ρ, W⟩ := rfl
/-! ### readings of containers: only what is known is unfolded -/
def cGet : Option Slot → Con
  | some (.own o) => .own o
  | some (.val d) => .val d
  | _ => .bad
theorem cGet_own (o : Own) : cGet (some (.own o)) = .own o := rfl
theorem cGet_val (d : D) : cGet (some (.val d)) = .val d := rfl
theorem con_slot (ρ : List Slot) (W : Addr → Option Own) (i : Nat) : con ⟨ρ, W⟩ (.slot i) = cGet ρ[i]? := by
  unfold con cGet
  rfl
def vGet (o : Option Slot) (S : Sta) (i : Nat) (Q : PQ) : Prop := match o with
  | some (.val d) => Q d S
  | some (.own (.lst xs)) => Q (.lst xs) ⟨S.ρ.set i (.val (.lst xs)), S.W⟩
  | some (.own (.dct ks vs)) => Q (.dct ks vs) ⟨S.ρ.set i (.val (.dct ks vs)), S.W⟩
  | _ => False
theorem pVar_mk (i : Nat) (ρ : List Slot) (W : Addr → Option Own) (Q : PQ) (E : PX) : pVar i ⟨ρ, W⟩ Q E = vGet ρ[i]? ⟨ρ, W⟩ i Q := rfl
theorem vGet_val (d : D) (S : Sta) (i : Nat) (Q : PQ) : vGet (some (.val d)) S i Q = Q d S := rfl
theorem vGet_ownL (xs : List D) (ρ : List Slot) (W : Addr → Option Own) (i : Nat) (Q : PQ) : vGet (some (.own (.lst xs))) ⟨ρ, W⟩ i Q = Q (.lst xs) ⟨ρ.set i (.val (.lst xs)), W⟩ := rfl
theorem vGet_ownD (ks vs : List D) (ρ : List Slot) (W : Addr → Option Own) (i : Nat) (Q : PQ) : vGet (some (.own (.dct ks vs))) ⟨ρ, W⟩ i Q = Q (.dct ks vs) ⟨ρ.set i (.val (.dct ks vs)), W⟩ := rfl
def kGet (o : Option Slot) (S : Sta) (i : Nat) (Q : Pk → Sta → Prop) : Prop := match o with
  | some (.val d) => Q (.val d) S
  | some (.own _) => Q (.slot i) S
  | _ => False
theorem pkVar_mk (i : Nat) (ρ : List Slot) (W : Addr → Option Own) (Q : Pk → Sta → Prop) (E : PX) : pkVar i ⟨ρ, W⟩ Q E = kGet ρ[i]? ⟨ρ, W⟩ i Q := rfl
theorem kGet_val (d : D) (S : Sta) (i : Nat) (Q : Pk → Sta → Prop) : kGet (some (.val d)) S i Q = Q (.val d) S := rfl
theorem kGet_own (o : Own) (S : Sta) (i : Nat) (Q : Pk → Sta → Prop) : kGet (some (.own o)) S i Q = Q (.slot i) S := rfl
def kSet (i : Nat) (P : PEnds) : PQ := fun d S1 => P.nx ⟨S1.ρ.set i (.val d), S1.W⟩
theorem pSet_eq (i : Nat) (te : PTE) (P : PEnds) (S : Sta) : pSet i te P S = te S (kSet i P) P.ex := rfl
theorem kSet_mk (i : Nat) (P : PEnds) (d : D) (ρ : List Slot) (W : Addr → Option Own) : kSet i P d ⟨ρ, W⟩ = P.nx ⟨ρ.set i (.val d), W⟩ := rfl
theorem con_tup (S : Sta) (xs : List D) : con S (.val (.tup xs)) = .val (.tup xs) := rfl
theorem con_lst (S : Sta) (xs : List D) : con S (.val (.lst xs)) = .val (.lst xs) := rfl
theorem con_dct (S : Sta) (xs ys : List D) : con S (.val (.dct xs ys)) = .val (.dct xs ys) := rfl
theorem con_str (S : Sta) (x : Str) : con S (.val (.str x)) = .val (.str x) := rfl
theorem con_own {ρ : List Slot} {W : Addr → Option Own} {a : Addr} {o : Own} (h : W a = some o) : con ⟨ρ, W⟩ (.val (.adr a)) = .own o := by simp only [con, h]
theorem con_updW (ρ : List Slot) (W : Addr → Option Own) (a : Addr) (o : Own) : con ⟨ρ, updW W a o⟩ (.val (.adr a)) = .own o := con_own (if_pos rfl)
theorem ixC_tup (xs : List D) (y : D) (Q : D → Prop) : ixC (.val (.tup xs)) y Q = oIx (.tup xs) y Q := rfl
theorem ixC_lst (xs : List D) (y : D) (Q : D → Prop) : ixC (.val (.lst xs)) y Q = oIx (.lst xs) y Q := rfl
theorem ixC_str (x : Str) (y : D) (Q : D → Prop) : ixC (.val (.str x)) y Q = oIx (.str x) y Q := rfl
theorem ixC_dct (ks vs : List D) (y : D) (Q : D → Prop) : ixC (.val (.dct ks vs)) y Q = ((keyK y).isSome = true ∧ ∃ d, dget ks vs y = some d ∧ Q d) := rfl
theorem ixC_ownL (xs : List D) (y : D) (Q : D → Prop) : ixC (.own (.lst xs)) y Q = ∃ i d, y = .int i ∧ atI xs i = some d ∧ Q d := rfl
theorem ixC_ownD (ks vs : List D) (y : D) (Q : D → Prop) : ixC (.own (.dct ks vs)) y Q = ((keyK y).isSome = true ∧ ∃ d, dget ks vs y = some d ∧ Q d) := rfl
theorem oIx_tup (xs : List D) (i : Int) (Q : D → Prop) : oIx (.tup xs) (.int i) Q = ∃ d, atI xs i = some d ∧ Q d := rfl
theorem oIx_lst (xs : List D) (i : Int) (Q : D → Prop) : oIx (.lst xs) (.int i) Q = ∃ d, atI xs i = some d ∧ Q d := rfl
theorem oIx_str (z : Str) (i : Int) (Q : D → Prop) : oIx (.str z) (.int i) Q = (z.length ≤ sizeLine ∧ ∃ c, atI z.cps.toList i = some c ∧ Q (.str ⟨#[c]⟩)) := rfl
theorem lenC_tup (xs : List D) (Q : D → Prop) : lenC (.val (.tup xs)) Q = Q (.int xs.length) := rfl
theorem lenC_lst (xs : List D) (Q : D → Prop) : lenC (.val (.lst xs)) Q = Q (.int xs.length) := rfl
theorem lenC_str (x : Str) (Q : D → Prop) : lenC (.val (.str x)) Q = (x.length ≤ sizeLine ∧ Q (.int x.length)) := rfl
theorem lenC_ownL (xs : List D) (Q : D → Prop) : lenC (.own (.lst xs)) Q = Q (.int xs.length) := rfl
theorem lenC_ownD (xs ys : List D) (Q : D → Prop) : lenC (.own (.dct xs ys)) Q = Q (.int xs.length) := rfl
theorem setC_ownL (xs : List D) (i d : D) (Q : Own → Prop) : setC (.own (.lst xs)) i d Q = ∃ k j, i = .int k ∧ ixN xs.length k = some j ∧ Q (.lst (xs.set j d)) := rfl
theorem setC_ownD (ks vs : List D) (i d : D) (Q : Own → Prop) : setC (.own (.dct ks vs)) i d Q = ((keyK i).isSome = true ∧ ks.length < sizeLine ∧ Q (.dct (dput ks vs i d).1 (dput ks vs i d).2)) := rfl
theorem putC_slot (ρ : List Slot) (W : Addr → Option Own) (i : Nat) (o : Own) : putC ⟨ρ, W⟩ (.slot i) o = ⟨ρ.set i (.own o), W⟩ := rfl
theorem putC_adr (ρ : List Slot) (W : Addr → Option Own) (a : Addr) (o : Own) : putC ⟨ρ, W⟩ (.val (.adr a)) o = ⟨ρ, updW W a o⟩ := rfl
theorem ixN_nat {n : Nat} {j : Nat} (h : j < n) : ixN n (j : Int) = some j := by
  unfold ixN
  simp [h]
theorem Pk_val_inj {x y : D} : (Pk.val x = Pk.val y) = (x = y) := by simp
theorem Con_own_inj {x y : Own} : (Con.own x = Con.own y) = (x = y) := by simp
theorem Own_lst_inj {x y : List D} : (Own.lst x = Own.lst y) = (x = y) := by simp
theorem updW_upd (W : Addr → Option Own) (a : Addr) (o u : Own) : updW (updW W a o) a u = updW W a u := funext fun b => by
  unfold updW; split <;> rfl
theorem updW_self (W : Addr → Option Own) (a : Addr) (o : Own) : updW W a o a = some o := if_pos rfl
theorem itD_lst (xs : List D) (Q : List D → Prop) : itD (.lst xs) Q = Q xs := rfl
theorem itD_tup (xs : List D) (Q : List D → Prop) : itD (.tup xs) Q = Q xs := rfl
theorem oInt_i (C : Int → Int → Prop) (g : Int → Int → Int) (i j : Int) (Q : D → Prop) : oInt C g (.int i) (.int j) Q = (C i j ∧ Q (.int (g i j))) := rfl
theorem oCmp_i (g : Int → Int → Bool) (i j : Int) (Q : D → Prop) : oCmp g (.int i) (.int j) Q = Q (.bl (g i j)) := rfl
theorem oAdd_i (i j : Int) (Q : D → Prop) : oAdd (.int i) (.int j) Q = Q (.int (i + j)) := rfl
theorem oAdd_s (x y : Str) (Q : D → Prop) : oAdd (.str x) (.str y) Q = (x.length + y.length ≤ sizeLine ∧ Q (.str (x ++ y))) := rfl
theorem oAdd_t (xs ys : List D) (Q : D → Prop) : oAdd (.tup xs) (.tup ys) Q = (xs.length + ys.length ≤ sizeLine ∧ Q (.tup (xs ++ ys))) := rfl
theorem oAdd_l (xs ys : List D) (Q : D → Prop) : oAdd (.lst xs) (.lst ys) Q = (xs.length + ys.length ≤ sizeLine ∧ Q (.lst (xs ++ ys))) := rfl
theorem oNeg_i (i : Int) (Q : D → Prop) : oNeg (.int i) Q = Q (.int (-i)) := rfl
theorem o1I_i (g : Int → Int) (i : Int) (Q : D → Prop) : o1I g [.int i] Q = Q (.int (g i)) := rfl
theorem o2I_i (g : Int → Int → Int) (i j : Int) (Q : D → Prop) : o2I g [.int i, .int j] Q = Q (.int (g i j)) := rfl
theorem oSl_t (xs : List D) (lo hi : Option Int) (Q : D → Prop) : oSl (.tup xs) lo hi Q = Q (.tup (cutD xs lo hi)) := rfl
theorem oSl_l (xs : List D) (lo hi : Option Int) (Q : D → Prop) : oSl (.lst xs) lo hi Q = Q (.lst (cutD xs lo hi)) := rfl
theorem oList_t (xs : List D) (Q : D → Prop) : oList [.tup xs] Q = Q (.lst xs) := rfl
theorem oList_l (xs : List D) (Q : D → Prop) : oList [.lst xs] Q = Q (.lst xs) := rfl
theorem oTuple_t (xs : List D) (Q : D → Prop) : oTuple [.tup xs] Q = Q (.tup xs) := rfl
theorem oTuple_l (xs : List D) (Q : D → Prop) : oTuple [.lst xs] Q = Q (.tup xs) := rfl
theorem oIn_t (n : Bool) (x : D) (ys : List D) (Q : D → Prop) : oIn n x (.tup ys) Q = (x.good = true ∧ D.good (.tup ys) = true ∧ Q (.bl (if n then !(ys.any fun z => eqD z x) else ys.any fun z => eqD z x))) := rfl
theorem oIn_l (n : Bool) (x : D) (ys : List D) (Q : D → Prop) : oIn n x (.lst ys) Q = (x.good = true ∧ D.good (.lst ys) = true ∧ Q (.bl (if n then !(ys.any fun z => eqD z x) else ys.any fun z => eqD z x))) := rfl
theorem oIsN_n (n : Bool) (x : D) (Q : D → Prop) : oIsN n x .non Q = Q (.bl (if n then !x.isN else x.isN)) := rfl
theorem ixC_ownLi (xs : List D) (i : Int) (Q : D → Prop) : ixC (.own (.lst xs)) (.int i) Q = ∃ d, atI xs i = some d ∧ Q d := by
  apply propext
  constructor
  · rintro ⟨i, d, h, r⟩; cases h; exact ⟨d, r⟩
  · rintro ⟨d, r⟩; exact ⟨i, d, rfl, r⟩
theorem setC_ownLi (xs : List D) (i : Int) (d : D) (Q : Own → Prop) : setC (.own (.lst xs)) (.int i) d Q = ∃ j, ixN xs.length i = some j ∧ Q (.lst (xs.set j d)) := by
  apply propext
  constructor
  · rintro ⟨i, j, h, r⟩; cases h; exact ⟨j, r⟩
  · rintro ⟨j, r⟩; exact ⟨i, j, rfl, r⟩
theorem ixN20 : ixN 2 0 = some 0 := rfl
theorem ixN21 : ixN 2 1 = some 1 := rfl
theorem atI_lt {xs : List D} {z : Int} (h0 : 0 ≤ z) (h1 : z < xs.length) : ∃ x, x ∈ xs ∧ atI xs z = some x := by
  obtain ⟨j, rfl⟩ := Int.eq_ofNat_of_zero_le h0
  have h : j < xs.length := by omega
  exact ⟨xs[j], List.getElem_mem h, atI_nat (List.getElem?_eq_getElem h)⟩
def kSetO (i : Nat) (P : PEnds) : Own → Sta → Prop := fun o S1 => P.nx ⟨S1.ρ.set i (.own o), S1.W⟩
/-! ### slots by their number: no other part of a goal is looked at -/
section
variable {P : PEnds} {Q : PQ} {E : PX} {W : Addr → Option Own} {r : List Slot} {d y : D} {o u : Own} {xs ks vs : List D} {s0 s1 s2 s3 s4 s5 s6 s7 s8 s9 s10 s11 s12 s13 s14 s15 s16 s17 s18 s19 s20 s21 s22 s23 : Slot} {G : D → Prop} {U : Pk → Sta → Prop} {V : Own → Prop} {T : Sta → Prop}
theorem pVarV0 : pVar 0 ⟨.val d :: r, W⟩ Q E = Q d ⟨.val d :: r, W⟩ := rfl
theorem pVarL0 : pVar 0 ⟨.own (.lst xs) :: r, W⟩ Q E = Q (.lst xs) ⟨.val (.lst xs) :: r, W⟩ := rfl
theorem pVarD0 : pVar 0 ⟨.own (.dct ks vs) :: r, W⟩ Q E = Q (.dct ks vs) ⟨.val (.dct ks vs) :: r, W⟩ := rfl
theorem pkVarV0 : pkVar 0 ⟨.val d :: r, W⟩ U E = U (.val d) ⟨.val d :: r, W⟩ := rfl
theorem pkVarO0 : pkVar 0 ⟨.own o :: r, W⟩ U E = U (.slot 0) ⟨.own o :: r, W⟩ := rfl
theorem kSetN0 : kSet 0 P d ⟨s0 :: r, W⟩ = P.nx ⟨.val d :: r, W⟩ := rfl
theorem kSetO_N0 : kSetO 0 P o ⟨s0 :: r, W⟩ = P.nx ⟨.own o :: r, W⟩ := rfl
theorem pgNameN0 : pgName 0 d ⟨s0 :: r, W⟩ T = T ⟨.val d :: r, W⟩ := rfl
theorem ixS0 : ixC (con ⟨.own o :: r, W⟩ (.slot 0)) y G = ixC (.own o) y G := rfl
theorem lenS0 : lenC (con ⟨.own o :: r, W⟩ (.slot 0)) G = lenC (.own o) G := rfl
theorem setS0 : setC (con ⟨.own o :: r, W⟩ (.slot 0)) y d V = setC (.own o) y d V := rfl
theorem conS0 : con ⟨.own o :: r, W⟩ (.slot 0) = .own o := rfl
theorem putS0 : putC ⟨s0 :: r, W⟩ (.slot 0) u = ⟨.own u :: r, W⟩ := rfl
theorem pVarV1 : pVar 1 ⟨s0 :: .val d :: r, W⟩ Q E = Q d ⟨s0 :: .val d :: r, W⟩ := rfl
theorem pVarL1 : pVar 1 ⟨s0 :: .own (.lst xs) :: r, W⟩ Q E = Q (.lst xs) ⟨s0 :: .val (.lst xs) :: r, W⟩ := rfl
theorem pVarD1 : pVar 1 ⟨s0 :: .own (.dct ks vs) :: r, W⟩ Q E = Q (.dct ks vs) ⟨s0 :: .val (.dct ks vs) :: r, W⟩ := rfl
theorem pkVarV1 : pkVar 1 ⟨s0 :: .val d :: r, W⟩ U E = U (.val d) ⟨s0 :: .val d :: r, W⟩ := rfl
theorem pkVarO1 : pkVar 1 ⟨s0 :: .own o :: r, W⟩ U E = U (.slot 1) ⟨s0 :: .own o :: r, W⟩ := rfl
theorem kSetN1 : kSet 1 P d ⟨s0 :: s1 :: r, W⟩ = P.nx ⟨s0 :: .val d :: r, W⟩ := rfl
theorem kSetO_N1 : kSetO 1 P o ⟨s0 :: s1 :: r, W⟩ = P.nx ⟨s0 :: .own o :: r, W⟩ := rfl
theorem pgNameN1 : pgName 1 d ⟨s0 :: s1 :: r, W⟩ T = T ⟨s0 :: .val d :: r, W⟩ := rfl
theorem ixS1 : ixC (con ⟨s0 :: .own o :: r, W⟩ (.slot 1)) y G = ixC (.own o) y G := rfl
theorem lenS1 : lenC (con ⟨s0 :: .own o :: r, W⟩ (.slot 1)) G = lenC (.own o) G := rfl
theorem setS1 : setC (con ⟨s0 :: .own o :: r, W⟩ (.slot 1)) y d V = setC (.own o) y d V := rfl
theorem conS1 : con ⟨s0 :: .own o :: r, W⟩ (.slot 1) = .own o := rfl
theorem putS1 : putC ⟨s0 :: s1 :: r, W⟩ (.slot 1) u = ⟨s0 :: .own u :: r, W⟩ := rfl
theorem pVarV2 : pVar 2 ⟨s0 :: s1 :: .val d :: r, W⟩ Q E = Q d ⟨s0 :: s1 :: .val d :: r, W⟩ := rfl
theorem pVarL2 : pVar 2 ⟨s0 :: s1 :: .own (.lst xs) :: r, W⟩ Q E = Q (.lst xs) ⟨s0 :: s1 :: .val (.lst xs) :: r, W⟩ := rfl
theorem pVarD2 : pVar 2 ⟨s0 :: s1 :: .own (.dct ks vs) :: r, W⟩ Q E = Q (.dct ks vs) ⟨s0 :: s1 :: .val (.dct ks vs) :: r, W⟩ := rfl
theorem pkVarV2 : pkVar 2 ⟨s0 :: s1 :: .val d :: r, W⟩ U E = U (.val d) ⟨s0 :: s1 :: .val d :: r, W⟩ := rfl
theorem pkVarO2 : pkVar 2 ⟨s0 :: s1 :: .own o :: r, W⟩ U E = U (.slot 2) ⟨s0 :: s1 :: .own o :: r, W⟩ := rfl
theorem kSetN2 : kSet 2 P d ⟨s0 :: s1 :: s2 :: r, W⟩ = P.nx ⟨s0 :: s1 :: .val d :: r, W⟩ := rfl
theorem kSetO_N2 : kSetO 2 P o ⟨s0 :: s1 :: s2 :: r, W⟩ = P.nx ⟨s0 :: s1 :: .own o :: r, W⟩ := rfl
theorem pgNameN2 : pgName 2 d ⟨s0 :: s1 :: s2 :: r, W⟩ T = T ⟨s0 :: s1 :: .val d :: r, W⟩ := rfl
theorem ixS2 : ixC (con ⟨s0 :: s1 :: .own o :: r, W⟩ (.slot 2)) y G = ixC (.own o) y G := rfl
theorem lenS2 : lenC (con ⟨s0 :: s1 :: .own o :: r, W⟩ (.slot 2)) G = lenC (.own o) G := rfl
theorem setS2 : setC (con ⟨s0 :: s1 :: .own o :: r, W⟩ (.slot 2)) y d V = setC (.own o) y d V := rfl
theorem conS2 : con ⟨s0 :: s1 :: .own o :: r, W⟩ (.slot 2) = .own o := rfl
theorem putS2 : putC ⟨s0 :: s1 :: s2 :: r, W⟩ (.slot 2) u = ⟨s0 :: s1 :: .own u :: r, W⟩ := rfl
theorem pVarV3 : pVar 3 ⟨s0 :: s1 :: s2 :: .val d :: r, W⟩ Q E = Q d ⟨s0 :: s1 :: s2 :: .val d :: r, W⟩ := rfl
theorem pVarL3 : pVar 3 ⟨s0 :: s1 :: s2 :: .own (.lst xs) :: r, W⟩ Q E = Q (.lst xs) ⟨s0 :: s1 :: s2 :: .val (.lst xs) :: r, W⟩ := rfl
theorem pVarD3 : pVar 3 ⟨s0 :: s1 :: s2 :: .own (.dct ks vs) :: r, W⟩ Q E = Q (.dct ks vs) ⟨s0 :: s1 :: s2 :: .val (.dct ks vs) :: r, W⟩ := rfl
theorem pkVarV3 : pkVar 3 ⟨s0 :: s1 :: s2 :: .val d :: r, W⟩ U E = U (.val d) ⟨s0 :: s1 :: s2 :: .val d :: r, W⟩ := rfl
theorem pkVarO3 : pkVar 3 ⟨s0 :: s1 :: s2 :: .own o :: r, W⟩ U E = U (.slot 3) ⟨s0 :: s1 :: s2 :: .own o :: r, W⟩ := rfl
theorem kSetN3 : kSet 3 P d ⟨s0 :: s1 :: s2 :: s3 :: r, W⟩ = P.nx ⟨s0 :: s1 :: s2 :: .val d :: r, W⟩ := rfl
theorem kSetO_N3 : kSetO 3 P o ⟨s0 :: s1 :: s2 :: s3 :: r, W⟩ = P.nx ⟨s0 :: s1 :: s2 :: .own o :: r, W⟩ := rfl
theorem pgNameN3 : pgName 3 d ⟨s0 :: s1 :: s2 :: s3 :: r, W⟩ T = T ⟨s0 :: s1 :: s2 :: .val d :: r, W⟩ := rfl
theorem ixS3 : ixC (con ⟨s0 :: s1 :: s2 :: .own o :: r, W⟩ (.slot 3)) y G = ixC (.own o) y G := rfl
theorem lenS3 : lenC (con ⟨s0 :: s1 :: s2 :: .own o :: r, W⟩ (.slot 3)) G = lenC (.own o) G := rfl
theorem setS3 : setC (con ⟨s0 :: s1 :: s2 :: .own o :: r, W⟩ (.slot 3)) y d V = setC (.own o) y d V := rfl
theorem conS3 : con ⟨s0 :: s1 :: s2 :: .own o :: r, W⟩ (.slot 3) = .own o := rfl
theorem putS3 : putC ⟨s0 :: s1 :: s2 :: s3 :: r, W⟩ (.slot 3) u = ⟨s0 :: s1 :: s2 :: .own u :: r, W⟩ := rfl
theorem pVarV4 : pVar 4 ⟨s0 :: s1 :: s2 :: s3 :: .val d :: r, W⟩ Q E = Q d ⟨s0 :: s1 :: s2 :: s3 :: .val d :: r, W⟩ := rfl
theorem pVarL4 : pVar 4 ⟨s0 :: s1 :: s2 :: s3 :: .own (.lst xs) :: r, W⟩ Q E = Q (.lst xs) ⟨s0 :: s1 :: s2 :: s3 :: .val (.lst xs) :: r, W⟩ := rfl
theorem pVarD4 : pVar 4 ⟨s0 :: s1 :: s2 :: s3 :: .own (.dct ks vs) :: r, W⟩ Q E = Q (.dct ks vs) ⟨s0 :: s1 :: s2 :: s3 :: .val (.dct ks vs) :: r, W⟩ := rfl
theorem pkVarV4 : pkVar 4 ⟨s0 :: s1 :: s2 :: s3 :: .val d :: r, W⟩ U E = U (.val d) ⟨s0 :: s1 :: s2 :: s3 :: .val d :: r, W⟩ := rfl
theorem pkVarO4 : pkVar 4 ⟨s0 :: s1 :: s2 :: s3 :: .own o :: r, W⟩ U E = U (.slot 4) ⟨s0 :: s1 :: s2 :: s3 :: .own o :: r, W⟩ := rfl
theorem kSetN4 : kSet 4 P d ⟨s0 :: s1 :: s2 :: s3 :: s4 :: r, W⟩ = P.nx ⟨s0 :: s1 :: s2 :: s3 :: .val d :: r, W⟩ := rfl
theorem kSetO_N4 : kSetO 4 P o ⟨s0 :: s1 :: s2 :: s3 :: s4 :: r, W⟩ = P.nx ⟨s0 :: s1 :: s2 :: s3 :: .own o :: r, W⟩ := rfl
theorem pgNameN4 : pgName 4 d ⟨s0 :: s1 :: s2 :: s3 :: s4 :: r, W⟩ T = T ⟨s0 :: s1 :: s2 :: s3 :: .val d :: r, W⟩ := rfl
theorem ixS4 : ixC (con ⟨s0 :: s1 :: s2 :: s3 :: .own o :: r, W⟩ (.slot 4)) y G = ixC (.own o) y G := rfl
theorem lenS4 : lenC (con ⟨s0 :: s1 :: s2 :: s3 :: .own o :: r, W⟩ (.slot 4)) G = lenC (.own o) G := rfl
theorem setS4 : setC (con ⟨s0 :: s1 :: s2 :: s3 :: .own o :: r, W⟩ (.slot 4)) y d V = setC (.own o) y d V := rfl
theorem conS4 : con ⟨s0 :: s1 :: s2 :: s3 :: .own o :: r, W⟩ (.slot 4) = .own o := rfl
theorem putS4 : putC ⟨s0 :: s1 :: s2 :: s3 :: s4 :: r, W⟩ (.slot 4) u = ⟨s0 :: s1 :: s2 :: s3 :: .own u :: r, W⟩ := rfl
theorem pVarV5 : pVar 5 ⟨s0 :: s1 :: s2 :: s3 :: s4 :: .val d :: r, W⟩ Q E = Q d ⟨s0 :: s1 :: s2 :: s3 :: s4 :: .val d :: r, W⟩ := rfl
theorem pVarL5 : pVar 5 ⟨s0 :: s1 :: s2 :: s3 :: s4 :: .own (.lst xs) :: r, W⟩ Q E = Q (.lst xs) ⟨s0 :: s1 :: s2 :: s3 :: s4 :: .val (.lst xs) :: r, W⟩ := rfl
theorem pVarD5 : pVar 5 ⟨s0 :: s1 :: s2 :: s3 :: s4 :: .own (.dct ks vs) :: r, W⟩ Q E = Q (.dct ks vs) ⟨s0 :: s1 :: s2 :: s3 :: s4 :: .val (.dct ks vs) :: r, W⟩ := rfl
theorem pkVarV5 : pkVar 5 ⟨s0 :: s1 :: s2 :: s3 :: s4 :: .val d :: r, W⟩ U E = U (.val d) ⟨s0 :: s1 :: s2 :: s3 :: s4 :: .val d :: r, W⟩ := rfl
theorem pkVarO5 : pkVar 5 ⟨s0 :: s1 :: s2 :: s3 :: s4 :: .own o :: r, W⟩ U E = U (.slot 5) ⟨s0 :: s1 :: s2 :: s3 :: s4 :: .own o :: r, W⟩ := rfl
theorem kSetN5 : kSet 5 P d ⟨s0 :: s1 :: s2 :: s3 :: s4 :: s5 :: r, W⟩ = P.nx ⟨s0 :: s1 :: s2 :: s3 :: s4 :: .val d :: r, W⟩ := rfl
theorem kSetO_N5 : kSetO 5 P o ⟨s0 :: s1 :: s2 :: s3 :: s4 :: s5 :: r, W⟩ = P.nx ⟨s0 :: s1 :: s2 :: s3 :: s4 :: .own o :: r, W⟩ := rfl
theorem pgNameN5 : pgName 5 d ⟨s0 :: s1 :: s2 :: s3 :: s4 :: s5 :: r, W⟩ T = T ⟨s0 :: s1 :: s2 :: s3 :: s4 :: .val d :: r, W⟩ := rfl
theorem ixS5 : ixC (con ⟨s0 :: s1 :: s2 :: s3 :: s4 :: .own o :: r, W⟩ (.slot 5)) y G = ixC (.own o) y G := rfl
theorem lenS5 : lenC (con ⟨s0 :: s1 :: s2 :: s3 :: s4 :: .own o :: r, W⟩ (.slot 5)) G = lenC (.own o) G := rfl
theorem setS5 : setC (con ⟨s0 :: s1 :: s2 :: s3 :: s4 :: .own o :: r, W⟩ (.slot 5)) y d V = setC (.own o) y d V := rfl
theorem conS5 : con ⟨s0 :: s1 :: s2 :: s3 :: s4 :: .own o :: r, W⟩ (.slot 5) = .own o := rfl
theorem putS5 : putC ⟨s0 :: s1 :: s2 :: s3 :: s4 :: s5 :: r, W⟩ (.slot 5) u = ⟨s0 :: s1 :: s2 :: s3 :: s4 :: .own u :: r, W⟩ := rfl
theorem pVarV6 : pVar 6 ⟨s0 :: s1 :: s2 :: s3 :: s4 :: s5 :: .val d :: r, W⟩ Q E = Q d ⟨s0 :: s1 :: s2 :: s3 :: s4 :: s5 :: .val d :: r, W⟩ := rfl
theorem pVarL6 : pVar 6 ⟨s0 :: s1 :: s2 :: s3 :: s4 :: s5 :: .own (.lst xs) :: r, W⟩ Q E = Q (.lst xs) ⟨s0 :: s1 :: s2 :: s3 :: s4 :: s5 :: .val (.lst xs) :: r, W⟩ := rfl
theorem pVarD6 : pVar 6 ⟨s0 :: s1 :: s2 :: s3 :: s4 :: s5 :: .own (.dct ks vs) :: r, W⟩ Q E = Q (.dct ks vs) ⟨s0 :: s1 :: s2 :: s3 :: s4 :: s5 :: .val (.dct ks vs) :: r, W⟩ := rfl
theorem pkVarV6 : pkVar 6 ⟨s0 :: s1 :: s2 :: s3 :: s4 :: s5 :: .val d :: r, W⟩ U E = U (.val d) ⟨s0 :: s1 :: s2 :: s3 :: s4 :: s5 :: .val d :: r, W⟩ := rfl
theorem pkVarO6 : pkVar 6 ⟨s0 :: s1 :: s2 :: s3 :: s4 :: s5 :: .own o :: r, W⟩ U E = U (.slot 6) ⟨s0 :: s1 :: s2 :: s3 :: s4 :: s5 :: .own o :: r, W⟩ := rfl
theorem kSetN6 : kSet 6 P d ⟨s0 :: s1 :: s2 :: s3 :: s4 :: s5 :: s6 :: r, W⟩ = P.nx ⟨s0 :: s1 :: s2 :: s3 :: s4 :: s5 :: .val d :: r, W⟩ := rfl
theorem kSetO_N6 : kSetO 6 P o ⟨s0 :: s1 :: s2 :: s3 :: s4 :: s5 :: s6 :: r, W⟩ = P.nx ⟨s0 :: s1 :: s2 :: s3 :: s4 :: s5 :: .own o :: r, W⟩ := rfl
theorem pgNameN6 : pgName 6 d ⟨s0 :: s1 :: s2 :: s3 :: s4 :: s5 :: s6 :: r, W⟩ T = T ⟨s0 :: s1 :: s2 :: s3 :: s4 :: s5 :: .val d :: r, W⟩ := rfl
theorem ixS6 : ixC (con ⟨s0 :: s1 :: s2 :: s3 :: s4 :: s5 :: .own o :: r, W⟩ (.slot 6)) y G = ixC (.own o) y G := rfl
theorem lenS6 : lenC (con ⟨s0 :: s1 :: s2 :: s3 :: s4 :: s5 :: .own o :: r, W⟩ (.slot 6)) G = lenC (.own o) G := rfl
theorem setS6 : setC (con ⟨s0 :: s1 :: s2 :: s3 :: s4 :: s5 :: .own o :: r, W⟩ (.slot 6)) y d V = setC (.own o) y d V := rfl
theorem conS6 : con ⟨s0 :: s1 :: s2 :: s3 :: s4 :: s5 :: .own o :: r, W⟩ (.slot 6) = .own o := rfl
theorem putS6 : putC ⟨s0 :: s1 :: s2 :: s3 :: s4 :: s5 :: s6 :: r, W⟩ (.slot 6) u = ⟨s0 :: s1 :: s2 :: s3 :: s4 :: s5 :: .own u :: r, W⟩ := rfl
theorem pVarV7 : pVar 7 ⟨s0 :: s1 :: s2 :: s3 :: s4 :: s5 :: s6 :: .val d :: r, W⟩ Q E = Q d ⟨s0 :: s1 :: s2 :: s3 :: s4 :: s5 :: s6 :: .val d :: r, W⟩ := rfl
theorem pVarL7 : pVar 7 ⟨s0 :: s1 :: s2 :: s3 :: s4 :: s5 :: s6 :: .own (.lst xs) :: r, W⟩ Q E = Q (.lst xs) ⟨s0 :: s1 :: s2 :: s3 :: s4 :: s5 :: s6 :: .val (.lst xs) :: r, W⟩ := rfl
theorem pVarD7 : pVar 7 ⟨s0 :: s1 :: s2 :: s3 :: s4 :: s5 :: s6 :: .own (.dct ks vs) :: r, W⟩ Q E = Q (.dct ks vs) ⟨s0 :: s1 :: s2 :: s3 :: s4 :: s5 :: s6 :: .val (.dct ks vs) :: r, W⟩ := rfl
theorem pkVarV7 : pkVar 7 ⟨s0 :: s1 :: s2 :: s3 :: s4 :: s5 :: s6 :: .val d :: r, W⟩ U E = U (.val d) ⟨s0 :: s1 :: s2 :: s3 :: s4 :: s5 :: s6 :: .val d :: r, W⟩ := rfl
theorem pkVarO7 : pkVar 7 ⟨s0 :: s1 :: s2 :: s3 :: s4 :: s5 :: s6 :: .own o :: r, W⟩ U E = U (.slot 7) ⟨s0 :: s1 :: s2 :: s3 :: s4 :: s5 :: s6 :: .own o :: r, W⟩ := rfl
theorem kSetN7 : kSet 7 P d ⟨s0 :: s1 :: s2 :: s3 :: s4 :: s5 :: s6 :: s7 :: r, W⟩ = P.nx ⟨s0 :: s1 :: s2 :: s3 :: s4 :: s5 :: s6 :: .val d :: r, W⟩ := rfl
theorem kSetO_N7 : kSetO 7 P o ⟨s0 :: s1 :: s2 :: s3 :: s4 :: s5 :: s6 :: s7 :: r, W⟩ = P.nx ⟨s0 :: s1 :: s2 :: s3 :: s4 :: s5 :: s6 :: .own o :: r, W⟩ := rfl
theorem pgNameN7 : pgName 7 d ⟨s0 :: s1 :: s2 :: s3 :: s4 :: s5 :: s6 :: s7 :: r, W⟩ T = T ⟨s0 :: s1 :: s2 :: s3 :: s4 :: s5 :: s6 :: .val d :: r, W⟩ := rfl
theorem ixS7 : ixC (con ⟨s0 :: s1 :: s2 :: s3 :: s4 :: s5 :: s6 :: .own o :: r, W⟩ (.slot 7)) y G = ixC (.own o) y G := rfl
theorem lenS7 : lenC (con ⟨s0 :: s1 :: s2 :: s3 :: s4 :: s5 :: s6 :: .own o :: r, W⟩ (.slot 7)) G = lenC (.own o) G := rfl
theorem setS7 : setC (con ⟨s0 :: s1 :: s2 :: s3 :: s4 :: s5 :: s6 :: .own o :: r, W⟩ (.slot 7)) y d V = setC (.own o) y d V := rfl
theorem conS7 : con ⟨s0 :: s1 :: s2 :: s3 :: s4 :: s5 :: s6 :: .own o :: r, W⟩ (.slot 7) = .own o := rfl
theorem putS7 : putC ⟨s0 :: s1 :: s2 :: s3 :: s4 :: s5 :: s6 :: s7 :: r, W⟩ (.slot 7) u = ⟨s0 :: s1 :: s2 :: s3 :: s4 :: s5 :: s6 :: .own u :: r, W⟩ := rfl
theorem pVarV8 : pVar 8 ⟨s0 :: s1 :: s2 :: s3 :: s4 :: s5 :: s6 :: s7 :: .val d :: r, W⟩ Q E = Q d ⟨s0 :: s1 :: s2 :: s3 :: s4 :: s5 :: s6 :: s7 :: .val d :: r, W⟩ := rfl
theorem pVarL8 : pVar 8 ⟨s0 :: s1 :: s2 :: s3 :: s4 :: s5 :: s6 :: s7 :: .own (.lst xs) :: r, W⟩ Q E = Q (.lst xs) ⟨s0 :: s1 :: s2 :: s3 :: s4 :: s5 :: s6 :: s7 :: .val (.lst xs) :: r, W⟩ := rfl
theorem pVarD8 : pVar 8 ⟨s0 :: s1 :: s2 :: s3 :: s4 :: s5 :: s6 :: s7 :: .own (.dct ks vs) :: r, W⟩ Q E = Q (.dct ks vs) ⟨s0 :: s1 :: s2 :: s3 :: s4 :: s5 :: s6 :: s7 :: .val (.dct ks vs) :: r, W⟩ := rfl
theorem pkVarV8 : pkVar 8 ⟨s0 :: s1 :: s2 :: s3 :: s4 :: s5 :: s6 :: s7 :: .val d :: r, W⟩ U E = U (.val d) ⟨s0 :: s1 :: s2 :: s3 :: s4 :: s5 :: s6 :: s7 :: .val d :: r, W⟩ := rfl
theorem pkVarO8 : pkVar 8 ⟨s0 :: s1 :: s2 :: s3 :: s4 :: s5 :: s6 :: s7 :: .own o :: r, W⟩ U E = U (.slot 8) ⟨s0 :: s1 :: s2 :: s3 :: s4 :: s5 :: s6 :: s7 :: .own o :: r, W⟩ := rfl
theorem kSetN8 : kSet 8 P d ⟨s0 :: s1 :: s2 :: s3 :: s4 :: s5 :: s6 :: s7 :: s8 :: r, W⟩ = P.nx ⟨s0 :: s1 :: s2 :: s3 :: s4 :: s5 :: s6 :: s7 :: .val d :: r, W⟩ := rfl
theorem kSetO_N8 : kSetO 8 P o ⟨s0 :: s1 :: s2 :: s3 :: s4 :: s5 :: s6 :: s7 :: s8 :: r, W⟩ = P.nx ⟨s0 :: s1 :: s2 :: s3 :: s4 :: s5 :: s6 :: s7 :: .own o :: r, W⟩ := rfl
theorem pgNameN8 : pgName 8 d ⟨s0 :: s1 :: s2 :: s3 :: s4 :: s5 :: s6 :: s7 :: s8 :: r, W⟩ T = T ⟨s0 :: s1 :: s2 :: s3 :: s4 :: s5 :: s6 :: s7 :: .val d :: r, W⟩ := rfl
theorem ixS8 : ixC (con ⟨s0 :: s1 :: s2 :: s3 :: s4 :: s5 :: s6 :: s7 :: .own o :: r, W⟩ (.slot 8)) y G = ixC (.own o) y G := rfl
theorem lenS8 : lenC (con ⟨s0 :: s1 :: s2 :: s3 :: s4 :: s5 :: s6 :: s7 :: .own o :: r, W⟩ (.slot 8)) G = lenC (.own o) G := rfl
theorem setS8 : setC (con ⟨s0 :: s1 :: s2 :: s3 :: s4 :: s5 :: s6 :: s7 :: .own o :: r, W⟩ (.slot 8)) y d V = setC (.own o) y d V := rfl
theorem conS8 : con ⟨s0 :: s1 :: s2 :: s3 :: s4 :: s5 :: s6 :: s7 :: .own o :: r, W⟩ (.slot 8) = .own o := rfl
theorem putS8 : putC ⟨s0 :: s1 :: s2 :: s3 :: s4 :: s5 :: s6 :: s7 :: s8 :: r, W⟩ (.slot 8) u = ⟨s0 :: s1 :: s2 :: s3 :: s4 :: s5 :: s6 :: s7 :: .own u :: r, W⟩ := rfl
theorem pVarV9 : pVar 9 ⟨s0 :: s1 :: s2 :: s3 :: s4 :: s5 :: s6 :: s7 :: s8 :: .val d :: r, W⟩ Q E = Q d ⟨s0 :: s1 :: s2 :: s3 :: s4 :: s5 :: s6 :: s7 :: s8 :: .val d :: r, W⟩ := rfl
theorem pVarL9 : pVar 9 ⟨s0 :: s1 :: s2 :: s3 :: s4 :: s5 :: s6 :: s7 :: s8 :: .own (.lst xs) :: r, W⟩ Q E = Q (.lst xs) ⟨s0 :: s1 :: s2 :: s3 :: s4 :: s5 :: s6 :: s7 :: s8 :: .val (.lst xs) :: r, W⟩ := rfl
theorem pVarD9 : pVar 9 ⟨s0 :: s1 :: s2 :: s3 :: s4 :: s5 :: s6 :: s7 :: s8 :: .own (.dct ks vs) :: r, W⟩ Q E = Q (.dct ks vs) ⟨s0 :: s1 :: s2 :: s3 :: s4 :: s5 :: s6 :: s7 :: s8 :: .val (.dct ks vs) :: r, W⟩ := rfl
theorem pkVarV9 : pkVar 9 ⟨s0 :: s1 :: s2 :: s3 :: s4 :: s5 :: s6 :: s7 :: s8 :: .val d :: r, W⟩ U E = U (.val d) ⟨s0 :: s1 :: s2 :: s3 :: s4 :: s5 :: s6 :: s7 :: s8 :: .val d :: r, W⟩ := rfl
theorem pkVarO9 : pkVar 9 ⟨s0 :: s1 :: s2 :: s3 :: s4 :: s5 :: s6 :: s7 :: s8 :: .own o :: r, W⟩ U E = U (.slot 9) ⟨s0 :: s1 :: s2 :: s3 :: s4 :: s5 :: s6 :: s7 :: s8 :: .own o :: r, W⟩ := rfl
theorem kSetN9 : kSet 9 P d ⟨s0 :: s1 :: s2 :: s3 :: s4 :: s5 :: s6 :: s7 :: s8 :: s9 :: r, W⟩ = P.nx ⟨s0 :: s1 :: s2 :: s3 :: s4 :: s5 :: s6 :: s7 :: s8 :: .val d :: r, W⟩ := rfl
theorem kSetO_N9 : kSetO 9 P o ⟨s0 :: s1 :: s2 :: s3 :: s4 :: s5 :: s6 :: s7 :: s8 :: s9 :: r, W⟩ = P.nx ⟨s0 :: s1 :: s2 :: s3 :: s4 :: s5 :: s6 :: s7 :: s8 :: .own o :: r, W⟩ := rfl
theorem pgNameN9 : pgName 9 d ⟨s0 :: s1 :: s2 :: s3 :: s4 :: s5 :: s6 :: s7 :: s8 :: s9 :: r, W⟩ T = T ⟨s0 :: s1 :: s2 :: s3 :: s4 :: s5 :: s6 :: s7 :: s8 :: .val d :: r, W⟩ := rfl
theorem ixS9 : ixC (con ⟨s0 :: s1 :: s2 :: s3 :: s4 :: s5 :: s6 :: s7 :: s8 :: .own o :: r, W⟩ (.slot 9)) y G = ixC (.own o) y G := rfl
theorem lenS9 : lenC (con ⟨s0 :: s1 :: s2 :: s3 :: s4 :: s5 :: s6 :: s7 :: s8 :: .own o :: r, W⟩ (.slot 9)) G = lenC (.own o) G := rfl
theorem setS9 : setC (con ⟨s0 :: s1 :: s2 :: s3 :: s4 :: s5 :: s6 :: s7 :: s8 :: .own o :: r, W⟩ (.slot 9)) y d V = setC (.own o) y d V := rfl
theorem conS9 : con ⟨s0 :: s1 :: s2 :: s3 :: s4 :: s5 :: s6 :: s7 :: s8 :: .own o :: r, W⟩ (.slot 9) = .own o := rfl
theorem putS9 : putC ⟨s0 :: s1 :: s2 :: s3 :: s4 :: s5 :: s6 :: s7 :: s8 :: s9 :: r, W⟩ (.slot 9) u = ⟨s0 :: s1 :: s2 :: s3 :: s4 :: s5 :: s6 :: s7 :: s8 :: .own u :: r, W⟩ := rfl
theorem pVarV10 : pVar 10 ⟨s0 :: s1 :: s2 :: s3 :: s4 :: s5 :: s6 :: s7 :: s8 :: s9 :: .val d :: r, W⟩ Q E = Q d ⟨s0 :: s1 :: s2 :: s3 :: s4 :: s5 :: s6 :: s7 :: s8 :: s9 :: .val d :: r, W⟩ := rfl
theorem pVarL10 : pVar 10 ⟨s0 :: s1 :: s2 :: s3 :: s4 :: s5 :: s6 :: s7 :: s8 :: s9 :: .own (.lst xs) :: r, W⟩ Q E = Q (.lst xs) ⟨s0 :: s1 :: s2 :: s3 :: s4 :: s5 :: s6 :: s7 :: s8 :: s9 :: .val (.lst xs) :: r, W⟩ := rfl
theorem pVarD10 : pVar 10 ⟨s0 :: s1 :: s2 :: s3 :: s4 :: s5 :: s6 :: s7 :: s8 :: s9 :: .own (.dct ks vs) :: r, W⟩ Q E = Q (.dct ks vs) ⟨s0 :: s1 :: s2 :: s3 :: s4 :: s5 :: s6 :: s7 :: s8 :: s9 :: .val (.dct ks vs) :: r, W⟩ := rfl
theorem pkVarV10 : pkVar 10 ⟨s0 :: s1 :: s2 :: s3 :: s4 :: s5 :: s6 :: s7 :: s8 :: s9 :: .val d :: r, W⟩ U E = U (.val d) ⟨s0 :: s1 :: s2 :: s3 :: s4 :: s5 :: s6 :: s7 :: s8 :: s9 :: .val d :: r, W⟩ := rfl
theorem pkVarO10 : pkVar 10 ⟨s0 :: s1 :: s2 :: s3 :: s4 :: s5 :: s6 :: s7 :: s8 :: s9 :: .own o :: r, W⟩ U E = U (.slot 10) ⟨s0 :: s1 :: s2 :: s3 :: s4 :: s5 :: s6 :: s7 :: s8 :: s9 :: .own o :: r, W⟩ := rfl
theorem kSetN10 : kSet 10 P d ⟨s0 :: s1 :: s2 :: s3 :: s4 :: s5 :: s6 :: s7 :: s8 :: s9 :: s10 :: r, W⟩ = P.nx ⟨s0 :: s1 :: s2 :: s3 :: s4 :: s5 :: s6 :: s7 :: s8 :: s9 :: .val d :: r, W⟩ := rfl
theorem kSetO_N10 : kSetO 10 P o ⟨s0 :: s1 :: s2 :: s3 :: s4 :: s5 :: s6 :: s7 :: s8 :: s9 :: s10 :: r, W⟩ = P.nx ⟨s0 :: s1 :: s2 :: s3 :: s4 :: s5 :: s6 :: s7 :: s8 :: s9 :: .own o :: r, W⟩ := rfl
theorem pgNameN10 : pgName 10 d ⟨s0 :: s1 :: s2 :: s3 :: s4 :: s5 :: s6 :: s7 :: s8 :: s9 :: s10 :: r, W⟩ T = T ⟨s0 :: s1 :: s2 :: s3 :: s4 :: s5 :: s6 :: s7 :: s8 :: s9 :: .val d :: r, W⟩ := rfl
theorem ixS10 : ixC (con ⟨s0 :: s1 :: s2 :: s3 :: s4 :: s5 :: s6 :: s7 :: s8 :: s9 :: .own o :: r, W⟩ (.slot 10)) y G = ixC (.own o) y G := rfl
theorem lenS10 : lenC (con ⟨s0 :: s1 :: s2 :: s3 :: s4 :: s5 :: s6 :: s7 :: s8 :: s9 :: .own o :: r, W⟩ (.slot 10)) G = lenC (.own o) G := rfl
theorem setS10 : setC (con ⟨s0 :: s1 :: s2 :: s3 :: s4 :: s5 :: s6 :: s7 :: s8 :: s9 :: .own o :: r, W⟩ (.slot 10)) y d V = setC (.own o) y d V := rfl
theorem conS10 : con ⟨s0 :: s1 :: s2 :: s3 :: s4 :: s5 :: s6 :: s7 :: s8 :: s9 :: .own o :: r, W⟩ (.slot 10) = .own o := rfl
theorem putS10 : putC ⟨s0 :: s1 :: s2 :: s3 :: s4 :: s5 :: s6 :: s7 :: s8 :: s9 :: s10 :: r, W⟩ (.slot 10) u = ⟨s0 :: s1 :: s2 :: s3 :: s4 :: s5 :: s6 :: s7 :: s8 :: s9 :: .own u :: r, W⟩ := rfl
theorem pVarV11 : pVar 11 ⟨s0 :: s1 :: s2 :: s3 :: s4 :: s5 :: s6 :: s7 :: s8 :: s9 :: s10 :: .val d :: r, W⟩ Q E = Q d ⟨s0 :: s1 :: s2 :: s3 :: s4 :: s5 :: s6 :: s7 :: s8 :: s9 :: s10 :: .val d :: r, W⟩ := rfl
theorem pVarL11 : pVar 11 ⟨s0 :: s1 :: s2 :: s3 :: s4 :: s5 :: s6 :: s7 :: s8 :: s9 :: s10 :: .own (.lst xs) :: r, W⟩ Q E = Q (.lst xs) ⟨s0 :: s1 :: s2 :: s3 :: s4 :: s5 :: s6 :: s7 :: s8 :: s9 :: s10 :: .val (.lst xs) :: r, W⟩ := rfl
theorem pVarD11 : pVar 11 ⟨s0 :: s1 :: s2 :: s3 :: s4 :: s5 :: s6 :: s7 :: s8 :: s9 :: s10 :: .own (.dct ks vs) :: r, W⟩ Q E = Q (.dct ks vs) ⟨s0 :: s1 :: s2 :: s3 :: s4 :: s5 :: s6 :: s7 :: s8 :: s9 :: s10 :: .val (.dct ks vs) :: r, W⟩ := rfl
theorem pkVarV11 : pkVar 11 ⟨s0 :: s1 :: s2 :: s3 :: s4 :: s5 :: s6 :: s7 :: s8 :: s9 :: s10 :: .val d :: r, W⟩ U E = U (.val d) ⟨s0 :: s1 :: s2 :: s3 :: s4 :: s5 :: s6 :: s7 :: s8 :: s9 :: s10 :: .val d :: r, W⟩ := rfl
theorem pkVarO11 : pkVar 11 ⟨s0 :: s1 :: s2 :: s3 :: s4 :: s5 :: s6 :: s7 :: s8 :: s9 :: s10 :: .own o :: r, W⟩ U E = U (.slot 11) ⟨s0 :: s1 :: s2 :: s3 :: s4 :: s5 :: s6 :: s7 :: s8 :: s9 :: s10 :: .own o :: r, W⟩ := rfl
theorem kSetN11 : kSet 11 P d ⟨s0 :: s1 :: s2 :: s3 :: s4 :: s5 :: s6 :: s7 :: s8 :: s9 :: s10 :: s11 :: r, W⟩ = P.nx ⟨s0 :: s1 :: s2 :: s3 :: s4 :: s5 :: s6 :: s7 :: s8 :: s9 :: s10 :: .val d :: r, W⟩ := rfl
theorem kSetO_N11 : kSetO 11 P o ⟨s0 :: s1 :: s2 :: s3 :: s4 :: s5 :: s6 :: s7 :: s8 :: s9 :: s10 :: s11 :: r, W⟩ = P.nx ⟨s0 :: s1 :: s2 :: s3 :: s4 :: s5 :: s6 :: s7 :: s8 :: s9 :: s10 :: .own o :: r, W⟩ := rfl
theorem pgNameN11 : pgName 11 d ⟨s0 :: s1 :: s2 :: s3 :: s4 :: s5 :: s6 :: s7 :: s8 :: s9 :: s10 :: s11 :: r, W⟩ T = T ⟨s0 :: s1 :: s2 :: s3 :: s4 :: s5 :: s6 :: s7 :: s8 :: s9 :: s10 :: .val d :: r, W⟩ := rfl
theorem ixS11 : ixC (con ⟨s0 :: s1 :: s2 :: s3 :: s4 :: s5 :: s6 :: s7 :: s8 :: s9 :: s10 :: .own o :: r, W⟩ (.slot 11)) y G = ixC (.own o) y G := rfl
theorem lenS11 : lenC (con ⟨s0 :: s1 :: s2 :: s3 :: s4 :: s5 :: s6 :: s7 :: s8 :: s9 :: s10 :: .own o :: r, W⟩ (.slot 11)) G = lenC (.own o) G := rfl
theorem setS11 : setC (con ⟨s0 :: s1 :: s2 :: s3 :: s4 :: s5 :: s6 :: s7 :: s8 :: s9 :: s10 :: .own o :: r, W⟩ (.slot 11)) y d V = setC (.own o) y d V := rfl
theorem conS11 : con ⟨s0 :: s1 :: s2 :: s3 :: s4 :: s5 :: s6 :: s7 :: s8 :: s9 :: s10 :: .own o :: r, W⟩ (.slot 11) = .own o := rfl
theorem putS11 : putC ⟨s0 :: s1 :: s2 :: s3 :: s4 :: s5 :: s6 :: s7 :: s8 :: s9 :: s10 :: s11 :: r, W⟩ (.slot 11) u = ⟨s0 :: s1 :: s2 :: s3 :: s4 :: s5 :: s6 :: s7 :: s8 :: s9 :: s10 :: .own u :: r, W⟩ := rfl
theorem pVarV12 : pVar 12 ⟨s0 :: s1 :: s2 :: s3 :: s4 :: s5 :: s6 :: s7 :: s8 :: s9 :: s10 :: s11 :: .val d :: r, W⟩ Q E = Q d ⟨s0 :: s1 :: s2 :: s3 :: s4 :: s5 :: s6 :: s7 :: s8 :: s9 :: s10 :: s11 :: .val d :: r, W⟩ := rfl
theorem pVarL12 : pVar 12 ⟨s0 :: s1 :: s2 :: s3 :: s4 :: s5 :: s6 :: s7 :: s8 :: s9 :: s10 :: s11 :: .own (.lst xs) :: r, W⟩ Q E = Q (.lst xs) ⟨s0 :: s1 :: s2 :: s3 :: s4 :: s5 :: s6 :: s7 :: s8 :: s9 :: s10 :: s11 :: .val (.lst xs) :: r, W⟩ := rfl
theorem pVarD12 : pVar 12 ⟨s0 :: s1 :: s2 :: s3 :: s4 :: s5 :: s6 :: s7 :: s8 :: s9 :: s10 :: s11 :: .own (.dct ks vs) :: r, W⟩ Q E = Q (.dct ks vs) ⟨s0 :: s1 :: s2 :: s3 :: s4 :: s5 :: s6 :: s7 :: s8 :: s9 :: s10 :: s11 :: .val (.dct ks vs) :: r, W⟩ := rfl
theorem pkVarV12 : pkVar 12 ⟨s0 :: s1 :: s2 :: s3 :: s4 :: s5 :: s6 :: s7 :: s8 :: s9 :: s10 :: s11 :: .val d :: r, W⟩ U E = U (.val d) ⟨s0 :: s1 :: s2 :: s3 :: s4 :: s5 :: s6 :: s7 :: s8 :: s9 :: s10 :: s11 :: .val d :: r, W⟩ := rfl
theorem pkVarO12 : pkVar 12 ⟨s0 :: s1 :: s2 :: s3 :: s4 :: s5 :: s6 :: s7 :: s8 :: s9 :: s10 :: s11 :: .own o :: r, W⟩ U E = U (.slot 12) ⟨s0 :: s1 :: s2 :: s3 :: s4 :: s5 :: s6 :: s7 :: s8 :: s9 :: s10 :: s11 :: .own o :: r, W⟩ := rfl
theorem kSetN12 : kSet 12 P d ⟨s0 :: s1 :: s2 :: s3 :: s4 :: s5 :: s6 :: s7 :: s8 :: s9 :: s10 :: s11 :: s12 :: r, W⟩ = P.nx ⟨s0 :: s1 :: s2 :: s3 :: s4 :: s5 :: s6 :: s7 :: s8 :: s9 :: s10 :: s11 :: .val d :: r, W⟩ := rfl
theorem kSetO_N12 : kSetO 12 P o ⟨s0 :: s1 :: s2 :: s3 :: s4 :: s5 :: s6 :: s7 :: s8 :: s9 :: s10 :: s11 :: s12 :: r, W⟩ = P.nx ⟨s0 :: s1 :: s2 :: s3 :: s4 :: s5 :: s6 :: s7 :: s8 :: s9 :: s10 :: s11 :: .own o :: r, W⟩ := rfl
theorem pgNameN12 : pgName 12 d ⟨s0 :: s1 :: s2 :: s3 :: s4 :: s5 :: s6 :: s7 :: s8 :: s9 :: s10 :: s11 :: s12 :: r, W⟩ T = T ⟨s0 :: s1 :: s2 :: s3 :: s4 :: s5 :: s6 :: s7 :: s8 :: s9 :: s10 :: s11 :: .val d :: r, W⟩ := rfl
theorem ixS12 : ixC (con ⟨s0 :: s1 :: s2 :: s3 :: s4 :: s5 :: s6 :: s7 :: s8 :: s9 :: s10 :: s11 :: .own o :: r, W⟩ (.slot 12)) y G = ixC (.own o) y G := rfl
theorem lenS12 : lenC (con ⟨s0 :: s1 :: s2 :: s3 :: s4 :: s5 :: s6 :: s7 :: s8 :: s9 :: s10 :: s11 :: .own o :: r, W⟩ (.slot 12)) G = lenC (.own o) G := rfl
theorem setS12 : setC (con ⟨s0 :: s1 :: s2 :: s3 :: s4 :: s5 :: s6 :: s7 :: s8 :: s9 :: s10 :: s11 :: .own o :: r, W⟩ (.slot 12)) y d V = setC (.own o) y d V := rfl
theorem conS12 : con ⟨s0 :: s1 :: s2 :: s3 :: s4 :: s5 :: s6 :: s7 :: s8 :: s9 :: s10 :: s11 :: .own o :: r, W⟩ (.slot 12) = .own o := rfl
theorem putS12 : putC ⟨s0 :: s1 :: s2 :: s3 :: s4 :: s5 :: s6 :: s7 :: s8 :: s9 :: s10 :: s11 :: s12 :: r, W⟩ (.slot 12) u = ⟨s0 :: s1 :: s2 :: s3 :: s4 :: s5 :: s6 :: s7 :: s8 :: s9 :: s10 :: s11 :: .own u :: r, W⟩ := rfl
theorem pVarV13 : pVar 13 ⟨s0 :: s1 :: s2 :: s3 :: s4 :: s5 :: s6 :: s7 :: s8 :: s9 :: s10 :: s11 :: s12 :: .val d :: r, W⟩ Q E = Q d ⟨s0 :: s1 :: s2 :: s3 :: s4 :: s5 :: s6 :: s7 :: s8 :: s9 :: s10 :: s11 :: s12 :: .val d :: r, W⟩ := rfl
theorem pVarL13 : pVar 13 ⟨s0 :: s1 :: s2 :: s3 :: s4 :: s5 :: s6 :: s7 :: s8 :: s9 :: s10 :: s11 :: s12 :: .own (.lst xs) :: r, W⟩ Q E = Q (.lst xs) ⟨s0 :: s1 :: s2 :: s3 :: s4 :: s5 :: s6 :: s7 :: s8 :: s9 :: s10 :: s11 :: s12 :: .val (.lst xs) :: r, W⟩ := rfl
theorem pVarD13 : pVar 13 ⟨s0 :: s1 :: s2 :: s3 :: s4 :: s5 :: s6 :: s7 :: s8 :: s9 :: s10 :: s11 :: s12 :: .own (.dct ks vs) :: r, W⟩ Q E = Q (.dct ks vs) ⟨s0 :: s1 :: s2 :: s3 :: s4 :: s5 :: s6 :: s7 :: s8 :: s9 :: s10 :: s11 :: s12 :: .val (.dct ks vs) :: r, W⟩ := rfl
theorem pkVarV13 : pkVar 13 ⟨s0 :: s1 :: s2 :: s3 :: s4 :: s5 :: s6 :: s7 :: s8 :: s9 :: s10 :: s11 :: s12 :: .val d :: r, W⟩ U E = U (.val d) ⟨s0 :: s1 :: s2 :: s3 :: s4 :: s5 :: s6 :: s7 :: s8 :: s9 :: s10 :: s11 :: s12 :: .val d :: r, W⟩ := rfl
theorem pkVarO13 : pkVar 13 ⟨s0 :: s1 :: s2 :: s3 :: s4 :: s5 :: s6 :: s7 :: s8 :: s9 :: s10 :: s11 :: s12 :: .own o :: r, W⟩ U E = U (.slot 13) ⟨s0 :: s1 :: s2 :: s3 :: s4 :: s5 :: s6 :: s7 :: s8 :: s9 :: s10 :: s11 :: s12 :: .own o :: r, W⟩ := rfl
theorem kSetN13 : kSet 13 P d ⟨s0 :: s1 :: s2 :: s3 :: s4 :: s5 :: s6 :: s7 :: s8 :: s9 :: s10 :: s11 :: s12 :: s13 :: r, W⟩ = P.nx ⟨s0 :: s1 :: s2 :: s3 :: s4 :: s5 :: s6 :: s7 :: s8 :: s9 :: s10 :: s11 :: s12 :: .val d :: r, W⟩ := rfl
theorem kSetO_N13 : kSetO 13 P o ⟨s0 :: s1 :: s2 :: s3 :: s4 :: s5 :: s6 :: s7 :: s8 :: s9 :: s10 :: s11 :: s12 :: s13 :: r, W⟩ = P.nx ⟨s0 :: s1 :: s2 :: s3 :: s4 :: s5 :: s6 :: s7 :: s8 :: s9 :: s10 :: s11 :: s12 :: .own o :: r, W⟩ := rfl
theorem pgNameN13 : pgName 13 d ⟨s0 :: s1 :: s2 :: s3 :: s4 :: s5 :: s6 :: s7 :: s8 :: s9 :: s10 :: s11 :: s12 :: s13 :: r, W⟩ T = T ⟨s0 :: s1 :: s2 :: s3 :: s4 :: s5 :: s6 :: s7 :: s8 :: s9 :: s10 :: s11 :: s12 :: .val d :: r, W⟩ := rfl
theorem ixS13 : ixC (con ⟨s0 :: s1 :: s2 :: s3 :: s4 :: s5 :: s6 :: s7 :: s8 :: s9 :: s10 :: s11 :: s12 :: .own o :: r, W⟩ (.slot 13)) y G = ixC (.own o) y G := rfl
theorem lenS13 : lenC (con ⟨s0 :: s1 :: s2 :: s3 :: s4 :: s5 :: s6 :: s7 :: s8 :: s9 :: s10 :: s11 :: s12 :: .own o :: r, W⟩ (.slot 13)) G = lenC (.own o) G := rfl
theorem setS13 : setC (con ⟨s0 :: s1 :: s2 :: s3 :: s4 :: s5 :: s6 :: s7 :: s8 :: s9 :: s10 :: s11 :: s12 :: .own o :: r, W⟩ (.slot 13)) y d V = setC (.own o) y d V := rfl
theorem conS13 : con ⟨s0 :: s1 :: s2 :: s3 :: s4 :: s5 :: s6 :: s7 :: s8 :: s9 :: s10 :: s11 :: s12 :: .own o :: r, W⟩ (.slot 13) = .own o := rfl
theorem putS13 : putC ⟨s0 :: s1 :: s2 :: s3 :: s4 :: s5 :: s6 :: s7 :: s8 :: s9 :: s10 :: s11 :: s12 :: s13 :: r, W⟩ (.slot 13) u = ⟨s0 :: s1 :: s2 :: s3 :: s4 :: s5 :: s6 :: s7 :: s8 :: s9 :: s10 :: s11 :: s12 :: .own u :: r, W⟩ := rfl
theorem pVarV14 : pVar 14 ⟨s0 :: s1 :: s2 :: s3 :: s4 :: s5 :: s6 :: s7 :: s8 :: s9 :: s10 :: s11 :: s12 :: s13 :: .val d :: r, W⟩ Q E = Q d ⟨s0 :: s1 :: s2 :: s3 :: s4 :: s5 :: s6 :: s7 :: s8 :: s9 :: s10 :: s11 :: s12 :: s13 :: .val d :: r, W⟩ := rfl
theorem pVarL14 : pVar 14 ⟨s0 :: s1 :: s2 :: s3 :: s4 :: s5 :: s6 :: s7 :: s8 :: s9 :: s10 :: s11 :: s12 :: s13 :: .own (.lst xs) :: r, W⟩ Q E = Q (.lst xs) ⟨s0 :: s1 :: s2 :: s3 :: s4 :: s5 :: s6 :: s7 :: s8 :: s9 :: s10 :: s11 :: s12 :: s13 :: .val (.lst xs) :: r, W⟩ := rfl
theorem pVarD14 : pVar 14 ⟨s0 :: s1 :: s2 :: s3 :: s4 :: s5 :: s6 :: s7 :: s8 :: s9 :: s10 :: s11 :: s12 :: s13 :: .own (.dct ks vs) :: r, W⟩ Q E = Q (.dct ks vs) ⟨s0 :: s1 :: s2 :: s3 :: s4 :: s5 :: s6 :: s7 :: s8 :: s9 :: s10 :: s11 :: s12 :: s13 :: .val (.dct ks vs) :: r, W⟩ := rfl
theorem pkVarV14 : pkVar 14 ⟨s0 :: s1 :: s2 :: s3 :: s4 :: s5 :: s6 :: s7 :: s8 :: s9 :: s10 :: s11 :: s12 :: s13 :: .val d :: r, W⟩ U E = U (.val d) ⟨s0 :: s1 :: s2 :: s3 :: s4 :: s5 :: s6 :: s7 :: s8 :: s9 :: s10 :: s11 :: s12 :: s13 :: .val d :: r, W⟩ := rfl
theorem pkVarO14 : pkVar 14 ⟨s0 :: s1 :: s2 :: s3 :: s4 :: s5 :: s6 :: s7 :: s8 :: s9 :: s10 :: s11 :: s12 :: s13 :: .own o :: r, W⟩ U E = U (.slot 14) ⟨s0 :: s1 :: s2 :: s3 :: s4 :: s5 :: s6 :: s7 :: s8 :: s9 :: s10 :: s11 :: s12 :: s13 :: .own o :: r, W⟩ := rfl
theorem kSetN14 : kSet 14 P d ⟨s0 :: s1 :: s2 :: s3 :: s4 :: s5 :: s6 :: s7 :: s8 :: s9 :: s10 :: s11 :: s12 :: s13 :: s14 :: r, W⟩ = P.nx ⟨s0 :: s1 :: s2 :: s3 :: s4 :: s5 :: s6 :: s7 :: s8 :: s9 :: s10 :: s11 :: s12 :: s13 :: .val d :: r, W⟩ := rfl
theorem kSetO_N14 : kSetO 14 P o ⟨s0 :: s1 :: s2 :: s3 :: s4 :: s5 :: s6 :: s7 :: s8 :: s9 :: s10 :: s11 :: s12 :: s13 :: s14 :: r, W⟩ = P.nx ⟨s0 :: s1 :: s2 :: s3 :: s4 :: s5 :: s6 :: s7 :: s8 :: s9 :: s10 :: s11 :: s12 :: s13 :: .own o :: r, W⟩ := rfl
theorem pgNameN14 : pgName 14 d ⟨s0 :: s1 :: s2 :: s3 :: s4 :: s5 :: s6 :: s7 :: s8 :: s9 :: s10 :: s11 :: s12 :: s13 :: s14 :: r, W⟩ T = T ⟨s0 :: s1 :: s2 :: s3 :: s4 :: s5 :: s6 :: s7 :: s8 :: s9 :: s10 :: s11 :: s12 :: s13 :: .val d :: r, W⟩ := rfl
theorem ixS14 : ixC (con ⟨s0 :: s1 :: s2 :: s3 :: s4 :: s5 :: s6 :: s7 :: s8 :: s9 :: s10 :: s11 :: s12 :: s13 :: .own o :: r, W⟩ (.slot 14)) y G = ixC (.own o) y G := rfl
theorem lenS14 : lenC (con ⟨s0 :: s1 :: s2 :: s3 :: s4 :: s5 :: s6 :: s7 :: s8 :: s9 :: s10 :: s11 :: s12 :: s13 :: .own o :: r, W⟩ (.slot 14)) G = lenC (.own o) G := rfl
theorem setS14 : setC (con ⟨s0 :: s1 :: s2 :: s3 :: s4 :: s5 :: s6 :: s7 :: s8 :: s9 :: s10 :: s11 :: s12 :: s13 :: .own o :: r, W⟩ (.slot 14)) y d V = setC (.own o) y d V := rfl
theorem conS14 : con ⟨s0 :: s1 :: s2 :: s3 :: s4 :: s5 :: s6 :: s7 :: s8 :: s9 :: s10 :: s11 :: s12 :: s13 :: .own o :: r, W⟩ (.slot 14) = .own o := rfl
theorem putS14 : putC ⟨s0 :: s1 :: s2 :: s3 :: s4 :: s5 :: s6 :: s7 :: s8 :: s9 :: s10 :: s11 :: s12 :: s13 :: s14 :: r, W⟩ (.slot 14) u = ⟨s0 :: s1 :: s2 :: s3 :: s4 :: s5 :: s6 :: s7 :: s8 :: s9 :: s10 :: s11 :: s12 :: s13 :: .own u :: r, W⟩ := rfl
theorem pVarV15 : pVar 15 ⟨s0 :: s1 :: s2 :: s3 :: s4 :: s5 :: s6 :: s7 :: s8 :: s9 :: s10 :: s11 :: s12 :: s13 :: s14 :: .val d :: r, W⟩ Q E = Q d ⟨s0 :: s1 :: s2 :: s3 :: s4 :: s5 :: s6 :: s7 :: s8 :: s9 :: s10 :: s11 :: s12 :: s13 :: s14 :: .val d :: r, W⟩ := rfl
theorem pVarL15 : pVar 15 ⟨s0 :: s1 :: s2 :: s3 :: s4 :: s5 :: s6 :: s7 :: s8 :: s9 :: s10 :: s11 :: s12 :: s13 :: s14 :: .own (.lst xs) :: r, W⟩ Q E = Q (.lst xs) ⟨s0 :: s1 :: s2 :: s3 :: s4 :: s5 :: s6 :: s7 :: s8 :: s9 :: s10 :: s11 :: s12 :: s13 :: s14 :: .val (.lst xs) :: r, W⟩ := rfl
theorem pVarD15 : pVar 15 ⟨s0 :: s1 :: s2 :: s3 :: s4 :: s5 :: s6 :: s7 :: s8 :: s9 :: s10 :: s11 :: s12 :: s13 :: s14 :: .own (.dct ks vs) :: r, W⟩ Q E = Q (.dct ks vs) ⟨s0 :: s1 :: s2 :: s3 :: s4 :: s5 :: s6 :: s7 :: s8 :: s9 :: s10 :: s11 :: s12 :: s13 :: s14 :: .val (.dct ks vs) :: r, W⟩ := rfl
theorem pkVarV15 : pkVar 15 ⟨s0 :: s1 :: s2 :: s3 :: s4 :: s5 :: s6 :: s7 :: s8 :: s9 :: s10 :: s11 :: s12 :: s13 :: s14 :: .val d :: r, W⟩ U E = U (.val d) ⟨s0 :: s1 :: s2 :: s3 :: s4 :: s5 :: s6 :: s7 :: s8 :: s9 :: s10 :: s11 :: s12 :: s13 :: s14 :: .val d :: r, W⟩ := rfl
theorem pkVarO15 : pkVar 15 ⟨s0 :: s1 :: s2 :: s3 :: s4 :: s5 :: s6 :: s7 :: s8 :: s9 :: s10 :: s11 :: s12 :: s13 :: s14 :: .own o :: r, W⟩ U E = U (.slot 15) ⟨s0 :: s1 :: s2 :: s3 :: s4 :: s5 :: s6 :: s7 :: s8 :: s9 :: s10 :: s11 :: s12 :: s13 :: s14 :: .own o :: r, W⟩ := rfl
theorem kSetN15 : kSet 15 P d ⟨s0 :: s1 :: s2 :: s3 :: s4 :: s5 :: s6 :: s7 :: s8 :: s9 :: s10 :: s11 :: s12 :: s13 :: s14 :: s15 :: r, W⟩ = P.nx ⟨s0 :: s1 :: s2 :: s3 :: s4 :: s5 :: s6 :: s7 :: s8 :: s9 :: s10 :: s11 :: s12 :: s13 :: s14 :: .val d :: r, W⟩ := rfl
theorem kSetO_N15 : kSetO 15 P o ⟨s0 :: s1 :: s2 :: s3 :: s4 :: s5 :: s6 :: s7 :: s8 :: s9 :: s10 :: s11 :: s12 :: s13 :: s14 :: s15 :: r, W⟩ = P.nx ⟨s0 :: s1 :: s2 :: s3 :: s4 :: s5 :: s6 :: s7 :: s8 :: s9 :: s10 :: s11 :: s12 :: s13 :: s14 :: .own o :: r, W⟩ := rfl
theorem pgNameN15 : pgName 15 d ⟨s0 :: s1 :: s2 :: s3 :: s4 :: s5 :: s6 :: s7 :: s8 :: s9 :: s10 :: s11 :: s12 :: s13 :: s14 :: s15 :: r, W⟩ T = T ⟨s0 :: s1 :: s2 :: s3 :: s4 :: s5 :: s6 :: s7 :: s8 :: s9 :: s10 :: s11 :: s12 :: s13 :: s14 :: .val d :: r, W⟩ := rfl
theorem ixS15 : ixC (con ⟨s0 :: s1 :: s2 :: s3 :: s4 :: s5 :: s6 :: s7 :: s8 :: s9 :: s10 :: s11 :: s12 :: s13 :: s14 :: .own o :: r, W⟩ (.slot 15)) y G = ixC (.own o) y G := rfl
theorem lenS15 : lenC (con ⟨s0 :: s1 :: s2 :: s3 :: s4 :: s5 :: s6 :: s7 :: s8 :: s9 :: s10 :: s11 :: s12 :: s13 :: s14 :: .own o :: r, W⟩ (.slot 15)) G = lenC (.own o) G := rfl
theorem setS15 : setC (con ⟨s0 :: s1 :: s2 :: s3 :: s4 :: s5 :: s6 :: s7 :: s8 :: s9 :: s10 :: s11 :: s12 :: s13 :: s14 :: .own o :: r, W⟩ (.slot 15)) y d V = setC (.own o) y d V := rfl
theorem conS15 : con ⟨s0 :: s1 :: s2 :: s3 :: s4 :: s5 :: s6 :: s7 :: s8 :: s9 :: s10 :: s11 :: s12 :: s13 :: s14 :: .own o :: r, W⟩ (.slot 15) = .own o := rfl
theorem putS15 : putC ⟨s0 :: s1 :: s2 :: s3 :: s4 :: s5 :: s6 :: s7 :: s8 :: s9 :: s10 :: s11 :: s12 :: s13 :: s14 :: s15 :: r, W⟩ (.slot 15) u = ⟨s0 :: s1 :: s2 :: s3 :: s4 :: s5 :: s6 :: s7 :: s8 :: s9 :: s10 :: s11 :: s12 :: s13 :: s14 :: .own u :: r, W⟩ := rfl
theorem pVarV16 : pVar 16 ⟨s0 :: s1 :: s2 :: s3 :: s4 :: s5 :: s6 :: s7 :: s8 :: s9 :: s10 :: s11 :: s12 :: s13 :: s14 :: s15 :: .val d :: r, W⟩ Q E = Q d ⟨s0 :: s1 :: s2 :: s3 :: s4 :: s5 :: s6 :: s7 :: s8 :: s9 :: s10 :: s11 :: s12 :: s13 :: s14 :: s15 :: .val d :: r, W⟩ := rfl
theorem pVarL16 : pVar 16 ⟨s0 :: s1 :: s2 :: s3 :: s4 :: s5 :: s6 :: s7 :: s8 :: s9 :: s10 :: s11 :: s12 :: s13 :: s14 :: s15 :: .own (.lst xs) :: r, W⟩ Q E = Q (.lst xs) ⟨s0 :: s1 :: s2 :: s3 :: s4 :: s5 :: s6 :: s7 :: s8 :: s9 :: s10 :: s11 :: s12 :: s13 :: s14 :: s15 :: .val (.lst xs) :: r, W⟩ := rfl
theorem pVarD16 : pVar 16 ⟨s0 :: s1 :: s2 :: s3 :: s4 :: s5 :: s6 :: s7 :: s8 :: s9 :: s10 :: s11 :: s12 :: s13 :: s14 :: s15 :: .own (.dct ks vs) :: r, W⟩ Q E = Q (.dct ks vs) ⟨s0 :: s1 :: s2 :: s3 :: s4 :: s5 :: s6 :: s7 :: s8 :: s9 :: s10 :: s11 :: s12 :: s13 :: s14 :: s15 :: .val (.dct ks vs) :: r, W⟩ := rfl
theorem pkVarV16 : pkVar 16 ⟨s0 :: s1 :: s2 :: s3 :: s4 :: s5 :: s6 :: s7 :: s8 :: s9 :: s10 :: s11 :: s12 :: s13 :: s14 :: s15 :: .val d :: r, W⟩ U E = U (.val d) ⟨s0 :: s1 :: s2 :: s3 :: s4 :: s5 :: s6 :: s7 :: s8 :: s9 :: s10 :: s11 :: s12 :: s13 :: s14 :: s15 :: .val d :: r, W⟩ := rfl
theorem pkVarO16 : pkVar 16 ⟨s0 :: s1 :: s2 :: s3 :: s4 :: s5 :: s6 :: s7 :: s8 :: s9 :: s10 :: s11 :: s12 :: s13 :: s14 :: s15 :: .own o :: r, W⟩ U E = U (.slot 16) ⟨s0 :: s1 :: s2 :: s3 :: s4 :: s5 :: s6 :: s7 :: s8 :: s9 :: s10 :: s11 :: s12 :: s13 :: s14 :: s15 :: .own o :: r, W⟩ := rfl
theorem kSetN16 : kSet 16 P d ⟨s0 :: s1 :: s2 :: s3 :: s4 :: s5 :: s6 :: s7 :: s8 :: s9 :: s10 :: s11 :: s12 :: s13 :: s14 :: s15 :: s16 :: r, W⟩ = P.nx ⟨s0 :: s1 :: s2 :: s3 :: s4 :: s5 :: s6 :: s7 :: s8 :: s9 :: s10 :: s11 :: s12 :: s13 :: s14 :: s15 :: .val d :: r, W⟩ := rfl
theorem kSetO_N16 : kSetO 16 P o ⟨s0 :: s1 :: s2 :: s3 :: s4 :: s5 :: s6 :: s7 :: s8 :: s9 :: s10 :: s11 :: s12 :: s13 :: s14 :: s15 :: s16 :: r, W⟩ = P.nx ⟨s0 :: s1 :: s2 :: s3 :: s4 :: s5 :: s6 :: s7 :: s8 :: s9 :: s10 :: s11 :: s12 :: s13 :: s14 :: s15 :: .own o :: r, W⟩ := rfl
theorem pgNameN16 : pgName 16 d ⟨s0 :: s1 :: s2 :: s3 :: s4 :: s5 :: s6 :: s7 :: s8 :: s9 :: s10 :: s11 :: s12 :: s13 :: s14 :: s15 :: s16 :: r, W⟩ T = T ⟨s0 :: s1 :: s2 :: s3 :: s4 :: s5 :: s6 :: s7 :: s8 :: s9 :: s10 :: s11 :: s12 :: s13 :: s14 :: s15 :: .val d :: r, W⟩ := rfl
theorem ixS16 : ixC (con ⟨s0 :: s1 :: s2 :: s3 :: s4 :: s5 :: s6 :: s7 :: s8 :: s9 :: s10 :: s11 :: s12 :: s13 :: s14 :: s15 :: .own o :: r, W⟩ (.slot 16)) y G = ixC (.own o) y G := rfl
theorem lenS16 : lenC (con ⟨s0 :: s1 :: s2 :: s3 :: s4 :: s5 :: s6 :: s7 :: s8 :: s9 :: s10 :: s11 :: s12 :: s13 :: s14 :: s15 :: .own o :: r, W⟩ (.slot 16)) G = lenC (.own o) G := rfl
theorem setS16 : setC (con ⟨s0 :: s1 :: s2 :: s3 :: s4 :: s5 :: s6 :: s7 :: s8 :: s9 :: s10 :: s11 :: s12 :: s13 :: s14 :: s15 :: .own o :: r, W⟩ (.slot 16)) y d V = setC (.own o) y d V := rfl
theorem conS16 : con ⟨s0 :: s1 :: s2 :: s3 :: s4 :: s5 :: s6 :: s7 :: s8 :: s9 :: s10 :: s11 :: s12 :: s13 :: s14 :: s15 :: .own o :: r, W⟩ (.slot 16) = .own o := rfl
theorem putS16 : putC ⟨s0 :: s1 :: s2 :: s3 :: s4 :: s5 :: s6 :: s7 :: s8 :: s9 :: s10 :: s11 :: s12 :: s13 :: s14 :: s15 :: s16 :: r, W⟩ (.slot 16) u = ⟨s0 :: s1 :: s2 :: s3 :: s4 :: s5 :: s6 :: s7 :: s8 :: s9 :: s10 :: s11 :: s12 :: s13 :: s14 :: s15 :: .own u :: r, W⟩ := rfl
theorem pVarV17 : pVar 17 ⟨s0 :: s1 :: s2 :: s3 :: s4 :: s5 :: s6 :: s7 :: s8 :: s9 :: s10 :: s11 :: s12 :: s13 :: s14 :: s15 :: s16 :: .val d :: r, W⟩ Q E = Q d ⟨s0 :: s1 :: s2 :: s3 :: s4 :: s5 :: s6 :: s7 :: s8 :: s9 :: s10 :: s11 :: s12 :: s13 :: s14 :: s15 :: s16 :: .val d :: r, W⟩ := rfl
theorem pVarL17 : pVar 17 ⟨s0 :: s1 :: s2 :: s3 :: s4 :: s5 :: s6 :: s7 :: s8 :: s9 :: s10 :: s11 :: s12 :: s13 :: s14 :: s15 :: s16 :: .own (.lst xs) :: r, W⟩ Q E = Q (.lst xs) ⟨s0 :: s1 :: s2 :: s3 :: s4 :: s5 :: s6 :: s7 :: s8 :: s9 :: s10 :: s11 :: s12 :: s13 :: s14 :: s15 :: s16 :: .val (.lst xs) :: r, W⟩ := rfl
theorem pVarD17 : pVar 17 ⟨s0 :: s1 :: s2 :: s3 :: s4 :: s5 :: s6 :: s7 :: s8 :: s9 :: s10 :: s11 :: s12 :: s13 :: s14 :: s15 :: s16 :: .own (.dct ks vs) :: r, W⟩ Q E = Q (.dct ks vs) ⟨s0 :: s1 :: s2 :: s3 :: s4 :: s5 :: s6 :: s7 :: s8 :: s9 :: s10 :: s11 :: s12 :: s13 :: s14 :: s15 :: s16 :: .val (.dct ks vs) :: r, W⟩ := rfl
theorem pkVarV17 : pkVar 17 ⟨s0 :: s1 :: s2 :: s3 :: s4 :: s5 :: s6 :: s7 :: s8 :: s9 :: s10 :: s11 :: s12 :: s13 :: s14 :: s15 :: s16 :: .val d :: r, W⟩ U E = U (.val d) ⟨s0 :: s1 :: s2 :: s3 :: s4 :: s5 :: s6 :: s7 :: s8 :: s9 :: s10 :: s11 :: s12 :: s13 :: s14 :: s15 :: s16 :: .val d :: r, W⟩ := rfl
theorem pkVarO17 : pkVar 17 ⟨s0 :: s1 :: s2 :: s3 :: s4 :: s5 :: s6 :: s7 :: s8 :: s9 :: s10 :: s11 :: s12 :: s13 :: s14 :: s15 :: s16 :: .own o :: r, W⟩ U E = U (.slot 17) ⟨s0 :: s1 :: s2 :: s3 :: s4 :: s5 :: s6 :: s7 :: s8 :: s9 :: s10 :: s11 :: s12 :: s13 :: s14 :: s15 :: s16 :: .own o :: r, W⟩ := rfl
theorem kSetN17 : kSet 17 P d ⟨s0 :: s1 :: s2 :: s3 :: s4 :: s5 :: s6 :: s7 :: s8 :: s9 :: s10 :: s11 :: s12 :: s13 :: s14 :: s15 :: s16 :: s17 :: r, W⟩ = P.nx ⟨s0 :: s1 :: s2 :: s3 :: s4 :: s5 :: s6 :: s7 :: s8 :: s9 :: s10 :: s11 :: s12 :: s13 :: s14 :: s15 :: s16 :: .val d :: r, W⟩ := rfl
theorem kSetO_N17 : kSetO 17 P o ⟨s0 :: s1 :: s2 :: s3 :: s4 :: s5 :: s6 :: s7 :: s8 :: s9 :: s10 :: s11 :: s12 :: s13 :: s14 :: s15 :: s16 :: s17 :: r, W⟩ = P.nx ⟨s0 :: s1 :: s2 :: s3 :: s4 :: s5 :: s6 :: s7 :: s8 :: s9 :: s10 :: s11 :: s12 :: s13 :: s14 :: s15 :: s16 :: .own o :: r, W⟩ := rfl
theorem pgNameN17 : pgName 17 d ⟨s0 :: s1 :: s2 :: s3 :: s4 :: s5 :: s6 :: s7 :: s8 :: s9 :: s10 :: s11 :: s12 :: s13 :: s14 :: s15 :: s16 :: s17 :: r, W⟩ T = T ⟨s0 :: s1 :: s2 :: s3 :: s4 :: s5 :: s6 :: s7 :: s8 :: s9 :: s10 :: s11 :: s12 :: s13 :: s14 :: s15 :: s16 :: .val d :: r, W⟩ := rfl
theorem ixS17 : ixC (con ⟨s0 :: s1 :: s2 :: s3 :: s4 :: s5 :: s6 :: s7 :: s8 :: s9 :: s10 :: s11 :: s12 :: s13 :: s14 :: s15 :: s16 :: .own o :: r, W⟩ (.slot 17)) y G = ixC (.own o) y G := rfl
theorem lenS17 : lenC (con ⟨s0 :: s1 :: s2 :: s3 :: s4 :: s5 :: s6 :: s7 :: s8 :: s9 :: s10 :: s11 :: s12 :: s13 :: s14 :: s15 :: s16 :: .own o :: r, W⟩ (.slot 17)) G = lenC (.own o) G := rfl
theorem setS17 : setC (con ⟨s0 :: s1 :: s2 :: s3 :: s4 :: s5 :: s6 :: s7 :: s8 :: s9 :: s10 :: s11 :: s12 :: s13 :: s14 :: s15 :: s16 :: .own o :: r, W⟩ (.slot 17)) y d V = setC (.own o) y d V := rfl
theorem conS17 : con ⟨s0 :: s1 :: s2 :: s3 :: s4 :: s5 :: s6 :: s7 :: s8 :: s9 :: s10 :: s11 :: s12 :: s13 :: s14 :: s15 :: s16 :: .own o :: r, W⟩ (.slot 17) = .own o := rfl
theorem putS17 : putC ⟨s0 :: s1 :: s2 :: s3 :: s4 :: s5 :: s6 :: s7 :: s8 :: s9 :: s10 :: s11 :: s12 :: s13 :: s14 :: s15 :: s16 :: s17 :: r, W⟩ (.slot 17) u = ⟨s0 :: s1 :: s2 :: s3 :: s4 :: s5 :: s6 :: s7 :: s8 :: s9 :: s10 :: s11 :: s12 :: s13 :: s14 :: s15 :: s16 :: .own u :: r, W⟩ := rfl
theorem pVarV18 : pVar 18 ⟨s0 :: s1 :: s2 :: s3 :: s4 :: s5 :: s6 :: s7 :: s8 :: s9 :: s10 :: s11 :: s12 :: s13 :: s14 :: s15 :: s16 :: s17 :: .val d :: r, W⟩ Q E = Q d ⟨s0 :: s1 :: s2 :: s3 :: s4 :: s5 :: s6 :: s7 :: s8 :: s9 :: s10 :: s11 :: s12 :: s13 :: s14 :: s15 :: s16 :: s17 :: .val d :: r, W⟩ := rfl
theorem pVarL18 : pVar 18 ⟨s0 :: s1 :: s2 :: s3 :: s4 :: s5 :: s6 :: s7 :: s8 :: s9 :: s10 :: s11 :: s12 :: s13 :: s14 :: s15 :: s16 :: s17 :: .own (.lst xs) :: r, W⟩ Q E = Q (.lst xs) ⟨s0 :: s1 :: s2 :: s3 :: s4 :: s5 :: s6 :: s7 :: s8 :: s9 :: s10 :: s11 :: s12 :: s13 :: s14 :: s15 :: s16 :: s17 :: .val (.lst xs) :: r, W⟩ := rfl
theorem pVarD18 : pVar 18 ⟨s0 :: s1 :: s2 :: s3 :: s4 :: s5 :: s6 :: s7 :: s8 :: s9 :: s10 :: s11 :: s12 :: s13 :: s14 :: s15 :: s16 :: s17 :: .own (.dct ks vs) :: r, W⟩ Q E = Q (.dct ks vs) ⟨s0 :: s1 :: s2 :: s3 :: s4 :: s5 :: s6 :: s7 :: s8 :: s9 :: s10 :: s11 :: s12 :: s13 :: s14 :: s15 :: s16 :: s17 :: .val (.dct ks vs) :: r, W⟩ := rfl
theorem pkVarV18 : pkVar 18 ⟨s0 :: s1 :: s2 :: s3 :: s4 :: s5 :: s6 :: s7 :: s8 :: s9 :: s10 :: s11 :: s12 :: s13 :: s14 :: s15 :: s16 :: s17 :: .val d :: r, W⟩ U E = U (.val d) ⟨s0 :: s1 :: s2 :: s3 :: s4 :: s5 :: s6 :: s7 :: s8 :: s9 :: s10 :: s11 :: s12 :: s13 :: s14 :: s15 :: s16 :: s17 :: .val d :: r, W⟩ := rfl
theorem pkVarO18 : pkVar 18 ⟨s0 :: s1 :: s2 :: s3 :: s4 :: s5 :: s6 :: s7 :: s8 :: s9 :: s10 :: s11 :: s12 :: s13 :: s14 :: s15 :: s16 :: s17 :: .own o :: r, W⟩ U E = U (.slot 18) ⟨s0 :: s1 :: s2 :: s3 :: s4 :: s5 :: s6 :: s7 :: s8 :: s9 :: s10 :: s11 :: s12 :: s13 :: s14 :: s15 :: s16 :: s17 :: .own o :: r, W⟩ := rfl
theorem kSetN18 : kSet 18 P d ⟨s0 :: s1 :: s2 :: s3 :: s4 :: s5 :: s6 :: s7 :: s8 :: s9 :: s10 :: s11 :: s12 :: s13 :: s14 :: s15 :: s16 :: s17 :: s18 :: r, W⟩ = P.nx ⟨s0 :: s1 :: s2 :: s3 :: s4 :: s5 :: s6 :: s7 :: s8 :: s9 :: s10 :: s11 :: s12 :: s13 :: s14 :: s15 :: s16 :: s17 :: .val d :: r, W⟩ := rfl
theorem kSetO_N18 : kSetO 18 P o ⟨s0 :: s1 :: s2 :: s3 :: s4 :: s5 :: s6 :: s7 :: s8 :: s9 :: s10 :: s11 :: s12 :: s13 :: s14 :: s15 :: s16 :: s17 :: s18 :: r, W⟩ = P.nx ⟨s0 :: s1 :: s2 :: s3 :: s4 :: s5 :: s6 :: s7 :: s8 :: s9 :: s10 :: s11 :: s12 :: s13 :: s14 :: s15 :: s16 :: s17 :: .own o :: r, W⟩ := rfl
theorem pgNameN18 : pgName 18 d ⟨s0 :: s1 :: s2 :: s3 :: s4 :: s5 :: s6 :: s7 :: s8 :: s9 :: s10 :: s11 :: s12 :: s13 :: s14 :: s15 :: s16 :: s17 :: s18 :: r, W⟩ T = T ⟨s0 :: s1 :: s2 :: s3 :: s4 :: s5 :: s6 :: s7 :: s8 :: s9 :: s10 :: s11 :: s12 :: s13 :: s14 :: s15 :: s16 :: s17 :: .val d :: r, W⟩ := rfl
theorem ixS18 : ixC (con ⟨s0 :: s1 :: s2 :: s3 :: s4 :: s5 :: s6 :: s7 :: s8 :: s9 :: s10 :: s11 :: s12 :: s13 :: s14 :: s15 :: s16 :: s17 :: .own o :: r, W⟩ (.slot 18)) y G = ixC (.own o) y G := rfl
theorem lenS18 : lenC (con ⟨s0 :: s1 :: s2 :: s3 :: s4 :: s5 :: s6 :: s7 :: s8 :: s9 :: s10 :: s11 :: s12 :: s13 :: s14 :: s15 :: s16 :: s17 :: .own o :: r, W⟩ (.slot 18)) G = lenC (.own o) G := rfl
theorem setS18 : setC (con ⟨s0 :: s1 :: s2 :: s3 :: s4 :: s5 :: s6 :: s7 :: s8 :: s9 :: s10 :: s11 :: s12 :: s13 :: s14 :: s15 :: s16 :: s17 :: .own o :: r, W⟩ (.slot 18)) y d V = setC (.own o) y d V := rfl
theorem conS18 : con ⟨s0 :: s1 :: s2 :: s3 :: s4 :: s5 :: s6 :: s7 :: s8 :: s9 :: s10 :: s11 :: s12 :: s13 :: s14 :: s15 :: s16 :: s17 :: .own o :: r, W⟩ (.slot 18) = .own o := rfl
theorem putS18 : putC ⟨s0 :: s1 :: s2 :: s3 :: s4 :: s5 :: s6 :: s7 :: s8 :: s9 :: s10 :: s11 :: s12 :: s13 :: s14 :: s15 :: s16 :: s17 :: s18 :: r, W⟩ (.slot 18) u = ⟨s0 :: s1 :: s2 :: s3 :: s4 :: s5 :: s6 :: s7 :: s8 :: s9 :: s10 :: s11 :: s12 :: s13 :: s14 :: s15 :: s16 :: s17 :: .own u :: r, W⟩ := rfl
theorem pVarV19 : pVar 19 ⟨s0 :: s1 :: s2 :: s3 :: s4 :: s5 :: s6 :: s7 :: s8 :: s9 :: s10 :: s11 :: s12 :: s13 :: s14 :: s15 :: s16 :: s17 :: s18 :: .val d :: r, W⟩ Q E = Q d ⟨s0 :: s1 :: s2 :: s3 :: s4 :: s5 :: s6 :: s7 :: s8 :: s9 :: s10 :: s11 :: s12 :: s13 :: s14 :: s15 :: s16 :: s17 :: s18 :: .val d :: r, W⟩ := rfl
theorem pVarL19 : pVar 19 ⟨s0 :: s1 :: s2 :: s3 :: s4 :: s5 :: s6 :: s7 :: s8 :: s9 :: s10 :: s11 :: s12 :: s13 :: s14 :: s15 :: s16 :: s17 :: s18 :: .own (.lst xs) :: r, W⟩ Q E = Q (.lst xs) ⟨s0 :: s1 :: s2 :: s3 :: s4 :: s5 :: s6 :: s7 :: s8 :: s9 :: s10 :: s11 :: s12 :: s13 :: s14 :: s15 :: s16 :: s17 :: s18 :: .val (.lst xs) :: r, W⟩ := rfl
theorem pVarD19 : pVar 19 ⟨s0 :: s1 :: s2 :: s3 :: s4 :: s5 :: s6 :: s7 :: s8 :: s9 :: s10 :: s11 :: s12 :: s13 :: s14 :: s15 :: s16 :: s17 :: s18 :: .own (.dct ks vs) :: r, W⟩ Q E = Q (.dct ks vs) ⟨s0 :: s1 :: s2 :: s3 :: s4 :: s5 :: s6 :: s7 :: s8 :: s9 :: s10 :: s11 :: s12 :: s13 :: s14 :: s15 :: s16 :: s17 :: s18 :: .val (.dct ks vs) :: r, W⟩ := rfl
theorem pkVarV19 : pkVar 19 ⟨s0 :: s1 :: s2 :: s3 :: s4 :: s5 :: s6 :: s7 :: s8 :: s9 :: s10 :: s11 :: s12 :: s13 :: s14 :: s15 :: s16 :: s17 :: s18 :: .val d :: r, W⟩ U E = U (.val d) ⟨s0 :: s1 :: s2 :: s3 :: s4 :: s5 :: s6 :: s7 :: s8 :: s9 :: s10 :: s11 :: s12 :: s13 :: s14 :: s15 :: s16 :: s17 :: s18 :: .val d :: r, W⟩ := rfl
theorem pkVarO19 : pkVar 19 ⟨s0 :: s1 :: s2 :: s3 :: s4 :: s5 :: s6 :: s7 :: s8 :: s9 :: s10 :: s11 :: s12 :: s13 :: s14 :: s15 :: s16 :: s17 :: s18 :: .own o :: r, W⟩ U E = U (.slot 19) ⟨s0 :: s1 :: s2 :: s3 :: s4 :: s5 :: s6 :: s7 :: s8 :: s9 :: s10 :: s11 :: s12 :: s13 :: s14 :: s15 :: s16 :: s17 :: s18 :: .own o :: r, W⟩ := rfl
theorem kSetN19 : kSet 19 P d ⟨s0 :: s1 :: s2 :: s3 :: s4 :: s5 :: s6 :: s7 :: s8 :: s9 :: s10 :: s11 :: s12 :: s13 :: s14 :: s15 :: s16 :: s17 :: s18 :: s19 :: r, W⟩ = P.nx ⟨s0 :: s1 :: s2 :: s3 :: s4 :: s5 :: s6 :: s7 :: s8 :: s9 :: s10 :: s11 :: s12 :: s13 :: s14 :: s15 :: s16 :: s17 :: s18 :: .val d :: r, W⟩ := rfl
theorem kSetO_N19 : kSetO 19 P o ⟨s0 :: s1 :: s2 :: s3 :: s4 :: s5 :: s6 :: s7 :: s8 :: s9 :: s10 :: s11 :: s12 :: s13 :: s14 :: s15 :: s16 :: s17 :: s18 :: s19 :: r, W⟩ = P.nx ⟨s0 :: s1 :: s2 :: s3 :: s4 :: s5 :: s6 :: s7 :: s8 :: s9 :: s10 :: s11 :: s12 :: s13 :: s14 :: s15 :: s16 :: s17 :: s18 :: .own o :: r, W⟩ := rfl
theorem pgNameN19 : pgName 19 d ⟨s0 :: s1 :: s2 :: s3 :: s4 :: s5 :: s6 :: s7 :: s8 :: s9 :: s10 :: s11 :: s12 :: s13 :: s14 :: s15 :: s16 :: s17 :: s18 :: s19 :: r, W⟩ T = T ⟨s0 :: s1 :: s2 :: s3 :: s4 :: s5 :: s6 :: s7 :: s8 :: s9 :: s10 :: s11 :: s12 :: s13 :: s14 :: s15 :: s16 :: s17 :: s18 :: .val d :: r, W⟩ := rfl
theorem ixS19 : ixC (con ⟨s0 :: s1 :: s2 :: s3 :: s4 :: s5 :: s6 :: s7 :: s8 :: s9 :: s10 :: s11 :: s12 :: s13 :: s14 :: s15 :: s16 :: s17 :: s18 :: .own o :: r, W⟩ (.slot 19)) y G = ixC (.own o) y G := rfl
theorem lenS19 : lenC (con ⟨s0 :: s1 :: s2 :: s3 :: s4 :: s5 :: s6 :: s7 :: s8 :: s9 :: s10 :: s11 :: s12 :: s13 :: s14 :: s15 :: s16 :: s17 :: s18 :: .own o :: r, W⟩ (.slot 19)) G = lenC (.own o) G := rfl
theorem setS19 : setC (con ⟨s0 :: s1 :: s2 :: s3 :: s4 :: s5 :: s6 :: s7 :: s8 :: s9 :: s10 :: s11 :: s12 :: s13 :: s14 :: s15 :: s16 :: s17 :: s18 :: .own o :: r, W⟩ (.slot 19)) y d V = setC (.own o) y d V := rfl
theorem conS19 : con ⟨s0 :: s1 :: s2 :: s3 :: s4 :: s5 :: s6 :: s7 :: s8 :: s9 :: s10 :: s11 :: s12 :: s13 :: s14 :: s15 :: s16 :: s17 :: s18 :: .own o :: r, W⟩ (.slot 19) = .own o := rfl
theorem putS19 : putC ⟨s0 :: s1 :: s2 :: s3 :: s4 :: s5 :: s6 :: s7 :: s8 :: s9 :: s10 :: s11 :: s12 :: s13 :: s14 :: s15 :: s16 :: s17 :: s18 :: s19 :: r, W⟩ (.slot 19) u = ⟨s0 :: s1 :: s2 :: s3 :: s4 :: s5 :: s6 :: s7 :: s8 :: s9 :: s10 :: s11 :: s12 :: s13 :: s14 :: s15 :: s16 :: s17 :: s18 :: .own u :: r, W⟩ := rfl
theorem pVarV20 : pVar 20 ⟨s0 :: s1 :: s2 :: s3 :: s4 :: s5 :: s6 :: s7 :: s8 :: s9 :: s10 :: s11 :: s12 :: s13 :: s14 :: s15 :: s16 :: s17 :: s18 :: s19 :: .val d :: r, W⟩ Q E = Q d ⟨s0 :: s1 :: s2 :: s3 :: s4 :: s5 :: s6 :: s7 :: s8 :: s9 :: s10 :: s11 :: s12 :: s13 :: s14 :: s15 :: s16 :: s17 :: s18 :: s19 :: .val d :: r, W⟩ := rfl
theorem pVarL20 : pVar 20 ⟨s0 :: s1 :: s2 :: s3 :: s4 :: s5 :: s6 :: s7 :: s8 :: s9 :: s10 :: s11 :: s12 :: s13 :: s14 :: s15 :: s16 :: s17 :: s18 :: s19 :: .own (.lst xs) :: r, W⟩ Q E = Q (.lst xs) ⟨s0 :: s1 :: s2 :: s3 :: s4 :: s5 :: s6 :: s7 :: s8 :: s9 :: s10 :: s11 :: s12 :: s13 :: s14 :: s15 :: s16 :: s17 :: s18 :: s19 :: .val (.lst xs) :: r, W⟩ := rfl
theorem pVarD20 : pVar 20 ⟨s0 :: s1 :: s2 :: s3 :: s4 :: s5 :: s6 :: s7 :: s8 :: s9 :: s10 :: s11 :: s12 :: s13 :: s14 :: s15 :: s16 :: s17 :: s18 :: s19 :: .own (.dct ks vs) :: r, W⟩ Q E = Q (.dct ks vs) ⟨s0 :: s1 :: s2 :: s3 :: s4 :: s5 :: s6 :: s7 :: s8 :: s9 :: s10 :: s11 :: s12 :: s13 :: s14 :: s15 :: s16 :: s17 :: s18 :: s19 :: .val (.dct ks vs) :: r, W⟩ := rfl
theorem pkVarV20 : pkVar 20 ⟨s0 :: s1 :: s2 :: s3 :: s4 :: s5 :: s6 :: s7 :: s8 :: s9 :: s10 :: s11 :: s12 :: s13 :: s14 :: s15 :: s16 :: s17 :: s18 :: s19 :: .val d :: r, W⟩ U E = U (.val d) ⟨s0 :: s1 :: s2 :: s3 :: s4 :: s5 :: s6 :: s7 :: s8 :: s9 :: s10 :: s11 :: s12 :: s13 :: s14 :: s15 :: s16 :: s17 :: s18 :: s19 :: .val d :: r, W⟩ := rfl
theorem pkVarO20 : pkVar 20 ⟨s0 :: s1 :: s2 :: s3 :: s4 :: s5 :: s6 :: s7 :: s8 :: s9 :: s10 :: s11 :: s12 :: s13 :: s14 :: s15 :: s16 :: s17 :: s18 :: s19 :: .own o :: r, W⟩ U E = U (.slot 20) ⟨s0 :: s1 :: s2 :: s3 :: s4 :: s5 :: s6 :: s7 :: s8 :: s9 :: s10 :: s11 :: s12 :: s13 :: s14 :: s15 :: s16 :: s17 :: s18 :: s19 :: .own o :: r, W⟩ := rfl
theorem kSetN20 : kSet 20 P d ⟨s0 :: s1 :: s2 :: s3 :: s4 :: s5 :: s6 :: s7 :: s8 :: s9 :: s10 :: s11 :: s12 :: s13 :: s14 :: s15 :: s16 :: s17 :: s18 :: s19 :: s20 :: r, W⟩ = P.nx ⟨s0 :: s1 :: s2 :: s3 :: s4 :: s5 :: s6 :: s7 :: s8 :: s9 :: s10 :: s11 :: s12 :: s13 :: s14 :: s15 :: s16 :: s17 :: s18 :: s19 :: .val d :: r, W⟩ := rfl
theorem kSetO_N20 : kSetO 20 P o ⟨s0 :: s1 :: s2 :: s3 :: s4 :: s5 :: s6 :: s7 :: s8 :: s9 :: s10 :: s11 :: s12 :: s13 :: s14 :: s15 :: s16 :: s17 :: s18 :: s19 :: s20 :: r, W⟩ = P.nx ⟨s0 :: s1 :: s2 :: s3 :: s4 :: s5 :: s6 :: s7 :: s8 :: s9 :: s10 :: s11 :: s12 :: s13 :: s14 :: s15 :: s16 :: s17 :: s18 :: s19 :: .own o :: r, W⟩ := rfl
theorem pgNameN20 : pgName 20 d ⟨s0 :: s1 :: s2 :: s3 :: s4 :: s5 :: s6 :: s7 :: s8 :: s9 :: s10 :: s11 :: s12 :: s13 :: s14 :: s15 :: s16 :: s17 :: s18 :: s19 :: s20 :: r, W⟩ T = T ⟨s0 :: s1 :: s2 :: s3 :: s4 :: s5 :: s6 :: s7 :: s8 :: s9 :: s10 :: s11 :: s12 :: s13 :: s14 :: s15 :: s16 :: s17 :: s18 :: s19 :: .val d :: r, W⟩ := rfl
theorem ixS20 : ixC (con ⟨s0 :: s1 :: s2 :: s3 :: s4 :: s5 :: s6 :: s7 :: s8 :: s9 :: s10 :: s11 :: s12 :: s13 :: s14 :: s15 :: s16 :: s17 :: s18 :: s19 :: .own o :: r, W⟩ (.slot 20)) y G = ixC (.own o) y G := rfl
theorem lenS20 : lenC (con ⟨s0 :: s1 :: s2 :: s3 :: s4 :: s5 :: s6 :: s7 :: s8 :: s9 :: s10 :: s11 :: s12 :: s13 :: s14 :: s15 :: s16 :: s17 :: s18 :: s19 :: .own o :: r, W⟩ (.slot 20)) G = lenC (.own o) G := rfl
theorem setS20 : setC (con ⟨s0 :: s1 :: s2 :: s3 :: s4 :: s5 :: s6 :: s7 :: s8 :: s9 :: s10 :: s11 :: s12 :: s13 :: s14 :: s15 :: s16 :: s17 :: s18 :: s19 :: .own o :: r, W⟩ (.slot 20)) y d V = setC (.own o) y d V := rfl
theorem conS20 : con ⟨s0 :: s1 :: s2 :: s3 :: s4 :: s5 :: s6 :: s7 :: s8 :: s9 :: s10 :: s11 :: s12 :: s13 :: s14 :: s15 :: s16 :: s17 :: s18 :: s19 :: .own o :: r, W⟩ (.slot 20) = .own o := rfl
theorem putS20 : putC ⟨s0 :: s1 :: s2 :: s3 :: s4 :: s5 :: s6 :: s7 :: s8 :: s9 :: s10 :: s11 :: s12 :: s13 :: s14 :: s15 :: s16 :: s17 :: s18 :: s19 :: s20 :: r, W⟩ (.slot 20) u = ⟨s0 :: s1 :: s2 :: s3 :: s4 :: s5 :: s6 :: s7 :: s8 :: s9 :: s10 :: s11 :: s12 :: s13 :: s14 :: s15 :: s16 :: s17 :: s18 :: s19 :: .own u :: r, W⟩ := rfl
theorem pVarV21 : pVar 21 ⟨s0 :: s1 :: s2 :: s3 :: s4 :: s5 :: s6 :: s7 :: s8 :: s9 :: s10 :: s11 :: s12 :: s13 :: s14 :: s15 :: s16 :: s17 :: s18 :: s19 :: s20 :: .val d :: r, W⟩ Q E = Q d ⟨s0 :: s1 :: s2 :: s3 :: s4 :: s5 :: s6 :: s7 :: s8 :: s9 :: s10 :: s11 :: s12 :: s13 :: s14 :: s15 :: s16 :: s17 :: s18 :: s19 :: s20 :: .val d :: r, W⟩ := rfl
theorem pVarL21 : pVar 21 ⟨s0 :: s1 :: s2 :: s3 :: s4 :: s5 :: s6 :: s7 :: s8 :: s9 :: s10 :: s11 :: s12 :: s13 :: s14 :: s15 :: s16 :: s17 :: s18 :: s19 :: s20 :: .own (.lst xs) :: r, W⟩ Q E = Q (.lst xs) ⟨s0 :: s1 :: s2 :: s3 :: s4 :: s5 :: s6 :: s7 :: s8 :: s9 :: s10 :: s11 :: s12 :: s13 :: s14 :: s15 :: s16 :: s17 :: s18 :: s19 :: s20 :: .val (.lst xs) :: r, W⟩ := rfl
theorem pVarD21 : pVar 21 ⟨s0 :: s1 :: s2 :: s3 :: s4 :: s5 :: s6 :: s7 :: s8 :: s9 :: s10 :: s11 :: s12 :: s13 :: s14 :: s15 :: s16 :: s17 :: s18 :: s19 :: s20 :: .own (.dct ks vs) :: r, W⟩ Q E = Q (.dct ks vs) ⟨s0 :: s1 :: s2 :: s3 :: s4 :: s5 :: s6 :: s7 :: s8 :: s9 :: s10 :: s11 :: s12 :: s13 :: s14 :: s15 :: s16 :: s17 :: s18 :: s19 :: s20 :: .val (.dct ks vs) :: r, W⟩ := rfl
theorem pkVarV21 : pkVar 21 ⟨s0 :: s1 :: s2 :: s3 :: s4 :: s5 :: s6 :: s7 :: s8 :: s9 :: s10 :: s11 :: s12 :: s13 :: s14 :: s15 :: s16 :: s17 :: s18 :: s19 :: s20 :: .val d :: r, W⟩ U E = U (.val d) ⟨s0 :: s1 :: s2 :: s3 :: s4 :: s5 :: s6 :: s7 :: s8 :: s9 :: s10 :: s11 :: s12 :: s13 :: s14 :: s15 :: s16 :: s17 :: s18 :: s19 :: s20 :: .val d :: r, W⟩ := rfl
theorem pkVarO21 : pkVar 21 ⟨s0 :: s1 :: s2 :: s3 :: s4 :: s5 :: s6 :: s7 :: s8 :: s9 :: s10 :: s11 :: s12 :: s13 :: s14 :: s15 :: s16 :: s17 :: s18 :: s19 :: s20 :: .own o :: r, W⟩ U E = U (.slot 21) ⟨s0 :: s1 :: s2 :: s3 :: s4 :: s5 :: s6 :: s7 :: s8 :: s9 :: s10 :: s11 :: s12 :: s13 :: s14 :: s15 :: s16 :: s17 :: s18 :: s19 :: s20 :: .own o :: r, W⟩ := rfl
theorem kSetN21 : kSet 21 P d ⟨s0 :: s1 :: s2 :: s3 :: s4 :: s5 :: s6 :: s7 :: s8 :: s9 :: s10 :: s11 :: s12 :: s13 :: s14 :: s15 :: s16 :: s17 :: s18 :: s19 :: s20 :: s21 :: r, W⟩ = P.nx ⟨s0 :: s1 :: s2 :: s3 :: s4 :: s5 :: s6 :: s7 :: s8 :: s9 :: s10 :: s11 :: s12 :: s13 :: s14 :: s15 :: s16 :: s17 :: s18 :: s19 :: s20 :: .val d :: r, W⟩ := rfl
theorem kSetO_N21 : kSetO 21 P o ⟨s0 :: s1 :: s2 :: s3 :: s4 :: s5 :: s6 :: s7 :: s8 :: s9 :: s10 :: s11 :: s12 :: s13 :: s14 :: s15 :: s16 :: s17 :: s18 :: s19 :: s20 :: s21 :: r, W⟩ = P.nx ⟨s0 :: s1 :: s2 :: s3 :: s4 :: s5 :: s6 :: s7 :: s8 :: s9 :: s10 :: s11 :: s12 :: s13 :: s14 :: s15 :: s16 :: s17 :: s18 :: s19 :: s20 :: .own o :: r, W⟩ := rfl
theorem pgNameN21 : pgName 21 d ⟨s0 :: s1 :: s2 :: s3 :: s4 :: s5 :: s6 :: s7 :: s8 :: s9 :: s10 :: s11 :: s12 :: s13 :: s14 :: s15 :: s16 :: s17 :: s18 :: s19 :: s20 :: s21 :: r, W⟩ T = T ⟨s0 :: s1 :: s2 :: s3 :: s4 :: s5 :: s6 :: s7 :: s8 :: s9 :: s10 :: s11 :: s12 :: s13 :: s14 :: s15 :: s16 :: s17 :: s18 :: s19 :: s20 :: .val d :: r, W⟩ := rfl
theorem ixS21 : ixC (con ⟨s0 :: s1 :: s2 :: s3 :: s4 :: s5 :: s6 :: s7 :: s8 :: s9 :: s10 :: s11 :: s12 :: s13 :: s14 :: s15 :: s16 :: s17 :: s18 :: s19 :: s20 :: .own o :: r, W⟩ (.slot 21)) y G = ixC (.own o) y G := rfl
theorem lenS21 : lenC (con ⟨s0 :: s1 :: s2 :: s3 :: s4 :: s5 :: s6 :: s7 :: s8 :: s9 :: s10 :: s11 :: s12 :: s13 :: s14 :: s15 :: s16 :: s17 :: s18 :: s19 :: s20 :: .own o :: r, W⟩ (.slot 21)) G = lenC (.own o) G := rfl
theorem setS21 : setC (con ⟨s0 :: s1 :: s2 :: s3 :: s4 :: s5 :: s6 :: s7 :: s8 :: s9 :: s10 :: s11 :: s12 :: s13 :: s14 :: s15 :: s16 :: s17 :: s18 :: s19 :: s20 :: .own o :: r, W⟩ (.slot 21)) y d V = setC (.own o) y d V := rfl
theorem conS21 : con ⟨s0 :: s1 :: s2 :: s3 :: s4 :: s5 :: s6 :: s7 :: s8 :: s9 :: s10 :: s11 :: s12 :: s13 :: s14 :: s15 :: s16 :: s17 :: s18 :: s19 :: s20 :: .own o :: r, W⟩ (.slot 21) = .own o := rfl
theorem putS21 : putC ⟨s0 :: s1 :: s2 :: s3 :: s4 :: s5 :: s6 :: s7 :: s8 :: s9 :: s10 :: s11 :: s12 :: s13 :: s14 :: s15 :: s16 :: s17 :: s18 :: s19 :: s20 :: s21 :: r, W⟩ (.slot 21) u = ⟨s0 :: s1 :: s2 :: s3 :: s4 :: s5 :: s6 :: s7 :: s8 :: s9 :: s10 :: s11 :: s12 :: s13 :: s14 :: s15 :: s16 :: s17 :: s18 :: s19 :: s20 :: .own u :: r, W⟩ := rfl
theorem pVarV22 : pVar 22 ⟨s0 :: s1 :: s2 :: s3 :: s4 :: s5 :: s6 :: s7 :: s8 :: s9 :: s10 :: s11 :: s12 :: s13 :: s14 :: s15 :: s16 :: s17 :: s18 :: s19 :: s20 :: s21 :: .val d :: r, W⟩ Q E = Q d ⟨s0 :: s1 :: s2 :: s3 :: s4 :: s5 :: s6 :: s7 :: s8 :: s9 :: s10 :: s11 :: s12 :: s13 :: s14 :: s15 :: s16 :: s17 :: s18 :: s19 :: s20 :: s21 :: .val d :: r, W⟩ := rfl
theorem pVarL22 : pVar 22 ⟨s0 :: s1 :: s2 :: s3 :: s4 :: s5 :: s6 :: s7 :: s8 :: s9 :: s10 :: s11 :: s12 :: s13 :: s14 :: s15 :: s16 :: s17 :: s18 :: s19 :: s20 :: s21 :: .own (.lst xs) :: r, W⟩ Q E = Q (.lst xs) ⟨s0 :: s1 :: s2 :: s3 :: s4 :: s5 :: s6 :: s7 :: s8 :: s9 :: s10 :: s11 :: s12 :: s13 :: s14 :: s15 :: s16 :: s17 :: s18 :: s19 :: s20 :: s21 :: .val (.lst xs) :: r, W⟩ := rfl
theorem pVarD22 : pVar 22 ⟨s0 :: s1 :: s2 :: s3 :: s4 :: s5 :: s6 :: s7 :: s8 :: s9 :: s10 :: s11 :: s12 :: s13 :: s14 :: s15 :: s16 :: s17 :: s18 :: s19 :: s20 :: s21 :: .own (.dct ks vs) :: r, W⟩ Q E = Q (.dct ks vs) ⟨s0 :: s1 :: s2 :: s3 :: s4 :: s5 :: s6 :: s7 :: s8 :: s9 :: s10 :: s11 :: s12 :: s13 :: s14 :: s15 :: s16 :: s17 :: s18 :: s19 :: s20 :: s21 :: .val (.dct ks vs) :: r, W⟩ := rfl
theorem pkVarV22 : pkVar 22 ⟨s0 :: s1 :: s2 :: s3 :: s4 :: s5 :: s6 :: s7 :: s8 :: s9 :: s10 :: s11 :: s12 :: s13 :: s14 :: s15 :: s16 :: s17 :: s18 :: s19 :: s20 :: s21 :: .val d :: r, W⟩ U E = U (.val d) ⟨s0 :: s1 :: s2 :: s3 :: s4 :: s5 :: s6 :: s7 :: s8 :: s9 :: s10 :: s11 :: s12 :: s13 :: s14 :: s15 :: s16 :: s17 :: s18 :: s19 :: s20 :: s21 :: .val d :: r, W⟩ := rfl
theorem pkVarO22 : pkVar 22 ⟨s0 :: s1 :: s2 :: s3 :: s4 :: s5 :: s6 :: s7 :: s8 :: s9 :: s10 :: s11 :: s12 :: s13 :: s14 :: s15 :: s16 :: s17 :: s18 :: s19 :: s20 :: s21 :: .own o :: r, W⟩ U E = U (.slot 22) ⟨s0 :: s1 :: s2 :: s3 :: s4 :: s5 :: s6 :: s7 :: s8 :: s9 :: s10 :: s11 :: s12 :: s13 :: s14 :: s15 :: s16 :: s17 :: s18 :: s19 :: s20 :: s21 :: .own o :: r, W⟩ := rfl
theorem kSetN22 : kSet 22 P d ⟨s0 :: s1 :: s2 :: s3 :: s4 :: s5 :: s6 :: s7 :: s8 :: s9 :: s10 :: s11 :: s12 :: s13 :: s14 :: s15 :: s16 :: s17 :: s18 :: s19 :: s20 :: s21 :: s22 :: r, W⟩ = P.nx ⟨s0 :: s1 :: s2 :: s3 :: s4 :: s5 :: s6 :: s7 :: s8 :: s9 :: s10 :: s11 :: s12 :: s13 :: s14 :: s15 :: s16 :: s17 :: s18 :: s19 :: s20 :: s21 :: .val d :: r, W⟩ := rfl
theorem kSetO_N22 : kSetO 22 P o ⟨s0 :: s1 :: s2 :: s3 :: s4 :: s5 :: s6 :: s7 :: s8 :: s9 :: s10 :: s11 :: s12 :: s13 :: s14 :: s15 :: s16 :: s17 :: s18 :: s19 :: s20 :: s21 :: s22 :: r, W⟩ = P.nx ⟨s0 :: s1 :: s2 :: s3 :: s4 :: s5 :: s6 :: s7 :: s8 :: s9 :: s10 :: s11 :: s12 :: s13 :: s14 :: s15 :: s16 :: s17 :: s18 :: s19 :: s20 :: s21 :: .own o :: r, W⟩ := rfl
theorem pgNameN22 : pgName 22 d ⟨s0 :: s1 :: s2 :: s3 :: s4 :: s5 :: s6 :: s7 :: s8 :: s9 :: s10 :: s11 :: s12 :: s13 :: s14 :: s15 :: s16 :: s17 :: s18 :: s19 :: s20 :: s21 :: s22 :: r, W⟩ T = T ⟨s0 :: s1 :: s2 :: s3 :: s4 :: s5 :: s6 :: s7 :: s8 :: s9 :: s10 :: s11 :: s12 :: s13 :: s14 :: s15 :: s16 :: s17 :: s18 :: s19 :: s20 :: s21 :: .val d :: r, W⟩ := rfl
theorem ixS22 : ixC (con ⟨s0 :: s1 :: s2 :: s3 :: s4 :: s5 :: s6 :: s7 :: s8 :: s9 :: s10 :: s11 :: s12 :: s13 :: s14 :: s15 :: s16 :: s17 :: s18 :: s19 :: s20 :: s21 :: .own o :: r, W⟩ (.slot 22)) y G = ixC (.own o) y G := rfl
theorem lenS22 : lenC (con ⟨s0 :: s1 :: s2 :: s3 :: s4 :: s5 :: s6 :: s7 :: s8 :: s9 :: s10 :: s11 :: s12 :: s13 :: s14 :: s15 :: s16 :: s17 :: s18 :: s19 :: s20 :: s21 :: .own o :: r, W⟩ (.slot 22)) G = lenC (.own o) G := rfl
theorem setS22 : setC (con ⟨s0 :: s1 :: s2 :: s3 :: s4 :: s5 :: s6 :: s7 :: s8 :: s9 :: s10 :: s11 :: s12 :: s13 :: s14 :: s15 :: s16 :: s17 :: s18 :: s19 :: s20 :: s21 :: .own o :: r, W⟩ (.slot 22)) y d V = setC (.own o) y d V := rfl
theorem conS22 : con ⟨s0 :: s1 :: s2 :: s3 :: s4 :: s5 :: s6 :: s7 :: s8 :: s9 :: s10 :: s11 :: s12 :: s13 :: s14 :: s15 :: s16 :: s17 :: s18 :: s19 :: s20 :: s21 :: .own o :: r, W⟩ (.slot 22) = .own o := rfl
theorem putS22 : putC ⟨s0 :: s1 :: s2 :: s3 :: s4 :: s5 :: s6 :: s7 :: s8 :: s9 :: s10 :: s11 :: s12 :: s13 :: s14 :: s15 :: s16 :: s17 :: s18 :: s19 :: s20 :: s21 :: s22 :: r, W⟩ (.slot 22) u = ⟨s0 :: s1 :: s2 :: s3 :: s4 :: s5 :: s6 :: s7 :: s8 :: s9 :: s10 :: s11 :: s12 :: s13 :: s14 :: s15 :: s16 :: s17 :: s18 :: s19 :: s20 :: s21 :: .own u :: r, W⟩ := rfl
theorem pVarV23 : pVar 23 ⟨s0 :: s1 :: s2 :: s3 :: s4 :: s5 :: s6 :: s7 :: s8 :: s9 :: s10 :: s11 :: s12 :: s13 :: s14 :: s15 :: s16 :: s17 :: s18 :: s19 :: s20 :: s21 :: s22 :: .val d :: r, W⟩ Q E = Q d ⟨s0 :: s1 :: s2 :: s3 :: s4 :: s5 :: s6 :: s7 :: s8 :: s9 :: s10 :: s11 :: s12 :: s13 :: s14 :: s15 :: s16 :: s17 :: s18 :: s19 :: s20 :: s21 :: s22 :: .val d :: r, W⟩ := rfl
theorem pVarL23 : pVar 23 ⟨s0 :: s1 :: s2 :: s3 :: s4 :: s5 :: s6 :: s7 :: s8 :: s9 :: s10 :: s11 :: s12 :: s13 :: s14 :: s15 :: s16 :: s17 :: s18 :: s19 :: s20 :: s21 :: s22 :: .own (.lst xs) :: r, W⟩ Q E = Q (.lst xs) ⟨s0 :: s1 :: s2 :: s3 :: s4 :: s5 :: s6 :: s7 :: s8 :: s9 :: s10 :: s11 :: s12 :: s13 :: s14 :: s15 :: s16 :: s17 :: s18 :: s19 :: s20 :: s21 :: s22 :: .val (.lst xs) :: r, W⟩ := rfl
theorem pVarD23 : pVar 23 ⟨s0 :: s1 :: s2 :: s3 :: s4 :: s5 :: s6 :: s7 :: s8 :: s9 :: s10 :: s11 :: s12 :: s13 :: s14 :: s15 :: s16 :: s17 :: s18 :: s19 :: s20 :: s21 :: s22 :: .own (.dct ks vs) :: r, W⟩ Q E = Q (.dct ks vs) ⟨s0 :: s1 :: s2 :: s3 :: s4 :: s5 :: s6 :: s7 :: s8 :: s9 :: s10 :: s11 :: s12 :: s13 :: s14 :: s15 :: s16 :: s17 :: s18 :: s19 :: s20 :: s21 :: s22 :: .val (.dct ks vs) :: r, W⟩ := rfl
theorem pkVarV23 : pkVar 23 ⟨s0 :: s1 :: s2 :: s3 :: s4 :: s5 :: s6 :: s7 :: s8 :: s9 :: s10 :: s11 :: s12 :: s13 :: s14 :: s15 :: s16 :: s17 :: s18 :: s19 :: s20 :: s21 :: s22 :: .val d :: r, W⟩ U E = U (.val d) ⟨s0 :: s1 :: s2 :: s3 :: s4 :: s5 :: s6 :: s7 :: s8 :: s9 :: s10 :: s11 :: s12 :: s13 :: s14 :: s15 :: s16 :: s17 :: s18 :: s19 :: s20 :: s21 :: s22 :: .val d :: r, W⟩ := rfl
theorem pkVarO23 : pkVar 23 ⟨s0 :: s1 :: s2 :: s3 :: s4 :: s5 :: s6 :: s7 :: s8 :: s9 :: s10 :: s11 :: s12 :: s13 :: s14 :: s15 :: s16 :: s17 :: s18 :: s19 :: s20 :: s21 :: s22 :: .own o :: r, W⟩ U E = U (.slot 23) ⟨s0 :: s1 :: s2 :: s3 :: s4 :: s5 :: s6 :: s7 :: s8 :: s9 :: s10 :: s11 :: s12 :: s13 :: s14 :: s15 :: s16 :: s17 :: s18 :: s19 :: s20 :: s21 :: s22 :: .own o :: r, W⟩ := rfl
theorem kSetN23 : kSet 23 P d ⟨s0 :: s1 :: s2 :: s3 :: s4 :: s5 :: s6 :: s7 :: s8 :: s9 :: s10 :: s11 :: s12 :: s13 :: s14 :: s15 :: s16 :: s17 :: s18 :: s19 :: s20 :: s21 :: s22 :: s23 :: r, W⟩ = P.nx ⟨s0 :: s1 :: s2 :: s3 :: s4 :: s5 :: s6 :: s7 :: s8 :: s9 :: s10 :: s11 :: s12 :: s13 :: s14 :: s15 :: s16 :: s17 :: s18 :: s19 :: s20 :: s21 :: s22 :: .val d :: r, W⟩ := rfl
theorem kSetO_N23 : kSetO 23 P o ⟨s0 :: s1 :: s2 :: s3 :: s4 :: s5 :: s6 :: s7 :: s8 :: s9 :: s10 :: s11 :: s12 :: s13 :: s14 :: s15 :: s16 :: s17 :: s18 :: s19 :: s20 :: s21 :: s22 :: s23 :: r, W⟩ = P.nx ⟨s0 :: s1 :: s2 :: s3 :: s4 :: s5 :: s6 :: s7 :: s8 :: s9 :: s10 :: s11 :: s12 :: s13 :: s14 :: s15 :: s16 :: s17 :: s18 :: s19 :: s20 :: s21 :: s22 :: .own o :: r, W⟩ := rfl
theorem pgNameN23 : pgName 23 d ⟨s0 :: s1 :: s2 :: s3 :: s4 :: s5 :: s6 :: s7 :: s8 :: s9 :: s10 :: s11 :: s12 :: s13 :: s14 :: s15 :: s16 :: s17 :: s18 :: s19 :: s20 :: s21 :: s22 :: s23 :: r, W⟩ T = T ⟨s0 :: s1 :: s2 :: s3 :: s4 :: s5 :: s6 :: s7 :: s8 :: s9 :: s10 :: s11 :: s12 :: s13 :: s14 :: s15 :: s16 :: s17 :: s18 :: s19 :: s20 :: s21 :: s22 :: .val d :: r, W⟩ := rfl
theorem ixS23 : ixC (con ⟨s0 :: s1 :: s2 :: s3 :: s4 :: s5 :: s6 :: s7 :: s8 :: s9 :: s10 :: s11 :: s12 :: s13 :: s14 :: s15 :: s16 :: s17 :: s18 :: s19 :: s20 :: s21 :: s22 :: .own o :: r, W⟩ (.slot 23)) y G = ixC (.own o) y G := rfl
theorem lenS23 : lenC (con ⟨s0 :: s1 :: s2 :: s3 :: s4 :: s5 :: s6 :: s7 :: s8 :: s9 :: s10 :: s11 :: s12 :: s13 :: s14 :: s15 :: s16 :: s17 :: s18 :: s19 :: s20 :: s21 :: s22 :: .own o :: r, W⟩ (.slot 23)) G = lenC (.own o) G := rfl
theorem setS23 : setC (con ⟨s0 :: s1 :: s2 :: s3 :: s4 :: s5 :: s6 :: s7 :: s8 :: s9 :: s10 :: s11 :: s12 :: s13 :: s14 :: s15 :: s16 :: s17 :: s18 :: s19 :: s20 :: s21 :: s22 :: .own o :: r, W⟩ (.slot 23)) y d V = setC (.own o) y d V := rfl
theorem conS23 : con ⟨s0 :: s1 :: s2 :: s3 :: s4 :: s5 :: s6 :: s7 :: s8 :: s9 :: s10 :: s11 :: s12 :: s13 :: s14 :: s15 :: s16 :: s17 :: s18 :: s19 :: s20 :: s21 :: s22 :: .own o :: r, W⟩ (.slot 23) = .own o := rfl
theorem putS23 : putC ⟨s0 :: s1 :: s2 :: s3 :: s4 :: s5 :: s6 :: s7 :: s8 :: s9 :: s10 :: s11 :: s12 :: s13 :: s14 :: s15 :: s16 :: s17 :: s18 :: s19 :: s20 :: s21 :: s22 :: s23 :: r, W⟩ (.slot 23) u = ⟨s0 :: s1 :: s2 :: s3 :: s4 :: s5 :: s6 :: s7 :: s8 :: s9 :: s10 :: s11 :: s12 :: s13 :: s14 :: s15 :: s16 :: s17 :: s18 :: s19 :: s20 :: s21 :: s22 :: .own u :: r, W⟩ := rfl
end
theorem ixK_tup (S : Sta) (xs : List D) (y : D) (Q : D → Prop) : ixC (con S (.val (.tup xs))) y Q = oIx (.tup xs) y Q := rfl
theorem ixK_lst (S : Sta) (xs : List D) (y : D) (Q : D → Prop) : ixC (con S (.val (.lst xs))) y Q = oIx (.lst xs) y Q := rfl
theorem ixK_str (S : Sta) (x : Str) (y : D) (Q : D → Prop) : ixC (con S (.val (.str x))) y Q = oIx (.str x) y Q := rfl
theorem ixK_dct (S : Sta) (ks vs : List D) (y : D) (Q : D → Prop) : ixC (con S (.val (.dct ks vs))) y Q = ((keyK y).isSome = true ∧ ∃ d, dget ks vs y = some d ∧ Q d) := rfl
theorem lenK_tup (S : Sta) (xs : List D) (Q : D → Prop) : lenC (con S (.val (.tup xs))) Q = Q (.int xs.length) := rfl
theorem lenK_lst (S : Sta) (xs : List D) (Q : D → Prop) : lenC (con S (.val (.lst xs))) Q = Q (.int xs.length) := rfl
theorem lenK_str (S : Sta) (x : Str) (Q : D → Prop) : lenC (con S (.val (.str x))) Q = (x.length ≤ sizeLine ∧ Q (.int x.length)) := rfl
theorem pSetO_eq (i : Nat) (t : PTO) (P : PEnds) (S : Sta) : pSetO i t P S = t S (kSetO i P) P.ex := rfl
def kPar (i j : Nat) (P : PEnds) : List D → Sta → Prop := fun ds S1 => ∃ x y, ds = [x, y] ∧ P.nx ⟨(S1.ρ.set i (.val x)).set j (.val y), S1.W⟩
theorem pPar_eq (i j : Nat) (t : PTA) (P : PEnds) (S : Sta) : pPar i j t P S = t S (kPar i j P) P.ex := rfl
theorem kPar_mk (i j : Nat) (P : PEnds) (x y : D) (S : Sta) : kPar i j P [x, y] S = kSet i { P with nx := kSet j P y } x S := by
  apply propext
  constructor
  · rintro ⟨x, y, h, p⟩
    cases h
    exact p
  · exact fun p => ⟨x, y, rfl, p⟩
theorem ex_int1 {a : Int} {P : Int → Prop} : (∃ j : Int, [D.int a] = [.int j] ∧ P j) = P a := by
  apply propext
  constructor
  · rintro ⟨x, h, p⟩
    cases h
    exact p
  · exact fun p => ⟨a, rfl, p⟩
theorem ex_int2 {a b : Int} {P : Int → Int → Prop} : (∃ i j : Int, [D.int a, D.int b] = [.int i, .int j] ∧ P i j) = P a b := by
  apply propext
  constructor
  · rintro ⟨x, y, h, p⟩
    cases h
    exact p
  · exact fun p => ⟨a, b, rfl, p⟩
theorem ex_pair {a b : D} {P : D → D → Prop} : (∃ x y, [a, b] = [x, y] ∧ P x y) = P a b := by
  apply propext
  constructor
  · rintro ⟨x, y, h, p⟩
    cases h
    exact p
  · exact fun p => ⟨a, b, rfl, p⟩
/-! ### loops: an invariant along the list -/
theorem forW_list {α : Type} (e : α → D) (I : List α → Sta → Prop) {g : PTG} {tb : PTS} {P : PEnds} (nil : ∀ S, I [] S → P.nx S)
    (cons : ∀ a r S (K : Sta → Prop), I (a :: r) S → (∀ S', I r S' → K S') → g (e a) S fun S2 => tb { P with nx := K, ct := K, bk := P.nx } S2) :
    ∀ xs S, I xs S → forW g tb P (xs.map e) S
  | [], S, h => nil S h
  | a :: r, S, h => cons a r S (forW g tb P (r.map e)) h fun S' h' => forW_list e I nil cons r S' h'
theorem forW_mem {xs : List D} {S : Sta} (I : Sta → Prop) {g : PTG} {tb : PTS} {P : PEnds} (nil : ∀ S, I S → P.nx S)
    (cons : ∀ d, d ∈ xs → ∀ S (K : Sta → Prop), I S → (∀ S', I S' → K S') → g d S fun S2 => tb { P with nx := K, ct := K, bk := P.nx } S2) (h : I S) : forW g tb P xs S := by
  have key : ∀ ys : List D, (∀ y ∈ ys, y ∈ xs) → ∀ S, I S → forW g tb P ys S := fun ys => by
    induction ys with
    | nil => exact fun _ S h => nil S h
    | cons d r ih => exact fun hm S h => cons d (hm d (List.mem_cons_self ..)) S (forW g tb P r) h (ih fun y hy => hm y (List.mem_cons_of_mem _ hy))
  exact key xs (fun _ h => h) S h
theorem forW_range {lo : Int} {n : Nat} (I : Nat → Sta → Prop) {g : PTG} {tb : PTS} {P : PEnds} (done : ∀ S, I n S → P.nx S)
    (step : ∀ i S (K : Sta → Prop), i < n → I i S → (∀ S', I (i + 1) S' → K S') → g (.int (lo + i)) S fun S2 => tb { P with nx := K, ct := K, bk := P.nx } S2)
    {S : Sta} (h : I 0 S) : forW g tb P (rangeD lo n) S := by
  have key : ∀ (m i : Nat) (S : Sta), i + m = n → I i S → forW g tb P ((List.range' i m).map fun (i : Nat) => D.int (lo + i)) S := fun m => by
    induction m with
    | zero => intro i S e h; exact done S (by have : i = n := by omega
                                              exact this ▸ h)
    | succ m ih =>
      intro i S e h
      rw [List.range'_succ, List.map_cons]
      exact step i S (forW g tb P ((List.range' (i + 1) m).map fun (i : Nat) => D.int (lo + i))) (by omega) h fun S' h' => ih (i + 1) S' (by omega) h'
  have := key n 0 S (by omega) h
  unfold rangeD
  rw [List.range_eq_range']
  exact this
theorem lcW_list {α : Type} (e : α → D) (I : List α → List D → Sta → Prop) {g : PTG} {tt : PTT} {te : PTE} {vs : List Nat} {Q : PQ} (nil : ∀ acc S, I [] acc S → Q (.lst acc) S)
    (cons : ∀ a r acc S (K : List D → Sta → Prop), I (a :: r) acc S → (∀ acc' S', I r acc' S' → K acc' S') →
      g (e a) S fun S2 => tt S2 (fun b S3 => if b = true then te S3 (fun y S4 => acc.length < sizeLine ∧ K (acc ++ [y]) (wipS S4 vs)) noX else K acc (wipS S3 vs)) noX) :
    ∀ xs acc S, I xs acc S → lcW g tt te vs Q (xs.map e) acc S
  | [], acc, S, h => nil acc S h
  | a :: r, acc, S, h => cons a r acc S (fun acc' S' => lcW g tt te vs Q (r.map e) acc' S') h fun acc' S' h' => lcW_list e I nil cons r acc' S' h'
end Pl
set_option Elab.async false
set_option linter.all false
set_option maxRecDepth 100000
set_option maxHeartbeats 4000000
/-! Pl, part 11: dict displays, get, membership in a dict -/
namespace Pl
open PySem PySem.Spec L2
/-- the pairs of a display -/
def pPairs : List (PTE × PTE) → Sta → (List (D × D) → Sta → Prop) → PX → Prop
  | [], S, Q, _ => Q [] S
  | (a, b) :: r, S, Q, E => a S (fun k S1 => b S1 (fun v S2 => pPairs r S2 (fun ps S3 => Q ((k, v) :: ps) S3) E) E) E
def mergeD (acc : List D × List D) (ps : List (D × D)) : List D × List D := ps.foldl (fun a p => dput a.1 a.2 p.1 p.2) acc
def PMP (X : Cx) (pos : Pos) (keys : List (Option Expr)) (values : List Expr) (ts : List (PTE × PTE)) : Prop := ∀ W, Takes X W → PPs X pos keys values (ts.map fun p => (lE X W p.1, lE X W p.2))
section
variable {X : Cx} {pos : Pos} {k v : Expr} {ks : List (Option Expr)} {vs : List Expr} {tk tv : PTE} {ts : List (PTE × PTE)}
theorem pmp_nil : PMP X pos [] [] [] := fun _ _ => pps_nil
theorem pmp_cons (hk : PM X k tk) (hv : PM X v tv) (hr : PMP X pos ks vs ts) : PMP X pos (some k :: ks) (v :: vs) ((tk, tv) :: ts) := fun W t => pps_cons (hk W t) (hv W t) (hr W t)
end
inductive RepP (K : PySem.W.Frag) (H : Hp) : List (V × V) → List (D × D) → Prop
  | nil : RepP K H [] []
  | cons {v w : V} {d e : D} {r : List (V × V)} {s : List (D × D)} : Rep K H v d → Rep K H w e → RepP K H r s → RepP K H ((v, w) :: r) ((d, e) :: s)
theorem RepP.length {K : PySem.W.Frag} {H : Hp} {r : List (V × V)} {s : List (D × D)} (h : RepP K H r s) : r.length = s.length := by
  induction h with
  | nil => rfl
  | cons _ _ _ ih => simp [ih]
theorem pairs_run {X : Cx} {W : WX} : ∀ {ts : List (PTE × PTE)} {σ : St} {H : Hp} {S : Sta} {R : List (V × V) → Hp → Prop} {Q : List (D × D) → Sta → Prop} {E : PX}, Rel X.K H σ S → pPairs ts S Q E →
    (∀ ps dps H' S', Nx σ S H σ S' H' → Rel X.K H' σ S' → RepP X.K H' ps dps → Q dps S' → R ps H') → UpX X.K σ S H W E → tPairs (ts.map fun p => (lE X W p.1, lE X W p.2)) σ H R
  | [], σ, H, S, R, Q, E, rel, q, up, ux => up [] [] H S .refl rel .nil q
  | (a, b) :: r, σ, H, S, R, Q, E, rel, q, up, ux => by
    refine ⟨S, _, E, rel, q, fun v d H1 S1 n1 r1 p1 q1 => ?_, ux⟩
    refine ⟨S1, _, E, r1, q1, fun w e H2 S2 n2 r2 p2 q2 => ?_, ux.thn n1⟩
    refine pairs_run r2 q2 (fun ps dps H3 S3 n3 r3 p3 q3 => ?_) (ux.thn (n1.trans n2))
    exact up _ _ _ _ ((n1.trans n2).trans n3) r3 (.cons (Rep.nx n3 (Rep.nx n2 p1)) (Rep.nx n3 p2) p3) q3
def poDisp (ts : List (PTE × PTE)) : PTO := fun S Q E => pPairs ts S (fun ps S1 => ps.length ≤ 15 ∧ (∀ p ∈ ps, (keyK p.1).isSome = true) ∧ Q (.dct (mergeD ([], []) ps).1 (mergeD ([], []) ps).2) S1) E
theorem merge_rep {K : PySem.W.Frag} {H : Hp} : ∀ {ps : List (V × V)} {dps : List (D × D)}, RepP K H ps dps → (∀ p ∈ dps, (keyK p.1).isSome = true) → ∀ {acc : List (Key × V)} {ds : List D}, RepAll K H (acc.map (·.2)) ds →
    ∃ kvs : List (Key × V), ps = kvs.map (fun kv => (kV kv.1, kv.2)) ∧ (mergeD (acc.map fun p => keyD p.1, ds) dps).1 = (mergeK acc kvs).map (fun p => keyD p.1) ∧ RepAll K H ((mergeK acc kvs).map (·.2)) (mergeD (acc.map fun p => keyD p.1, ds) dps).2
  | _, _, .nil, _, acc, ds, h => ⟨[], rfl, rfl, h⟩
  | _, _, .cons (v := v) (w := w) (d := d) (e := e) r1 r2 rr, hk, acc, ds, h => by
    obtain ⟨k, ek⟩ := Option.isSome_iff_exists.mp (hk _ (List.mem_cons_self ..))
    have ed := keyK_some ek
    have ed : d = keyD k := ed
    subst ed
    have ev := keyV r1
    subst ev
    obtain ⟨p1, p2⟩ := dput_rep (k := k) r2 h
    obtain ⟨kvs, e1, e2, e3⟩ := merge_rep rr (fun p hp => hk p (List.mem_cons_of_mem _ hp)) p2
    rw [← p1] at e2 e3
    exact ⟨(k, w) :: kvs, by rw [e1]; rfl, e2, e3⟩
section
variable {X : Cx} {pos : Pos} {keys : List (Option Expr)} {values : List Expr} {ts : List (PTE × PTE)}
theorem pmo_disp (h : PMP X pos keys values ts) (hall : keys.all (·.isSome) = true := by rfl) (hl : keys.length = values.length := by rfl) (h0 : keys ≠ [] := by exact fun h => nomatch h) (h15 : keys.length ≤ 15 := by decide) : PMO X (.Dict keys values pos) (poDisp ts) := fun W tk => weakE (pe_disp (h W tk) hall hl h0 h15) fun σ H Q => by
  rintro ⟨S, Q', E', rel, q, up, ux⟩
  intro p hp
  have s : Same H (upd H p (.dK [])) := same_new hp
  have np := rel.fresh hp
  refine pairs_run (rel.same s) q (fun ps dps H2 S2 n2 r2 p2 q2 => ?_) (ux.thn (.same s))
  obtain ⟨q15, qk, q2⟩ := q2
  have hp2 : H2 p = some (.dK []) := n2.st p _ upd_same (.inr np)
  obtain ⟨kvs, e1, e2, e3⟩ := merge_rep p2 qk (acc := []) (ds := []) .nil
  have np2 : ¬ Oa σ S2 p := fun z => by
    rcases n2.oa p z with z | z
    · exact np z
    · rw [upd_same] at z; cases z
  refine ⟨hp2, kvs, e1, ?_, ?_⟩
  · have := p2.length
    have l2 : ps.length = kvs.length := by rw [e1, List.length_map]
    omega
  have st : Step (fun b => b = p) H2 (upd H2 p (.dK (mergeK [] kvs))) := fun b o eb q => by
    by_cases hb : b = p
    · subst hb
      rw [hp2] at eb
      cases eb
      rcases q with q | q
      · exact q.elim
      · exact absurd rfl q
    · rw [upd_ne hb]; exact eb
  have rel3 := r2.step st fun a ha e => np2 (e ▸ ha)
  have n3 : Nx σ S H σ S2 (upd H2 p (.dK (mergeK [] kvs))) := ⟨fun b o eb q => by
    have hb : b ≠ p := fun e => by subst e; rw [hp] at eb; cases eb
    rw [upd_ne hb]
    exact n2.st b o (by rw [upd_ne hb]; exact eb) q, fun b eb => by
    by_cases hb : b = p
    · subst hb; exact hp
    · rw [upd_ne hb] at eb
      have := n2.kn b eb
      rwa [upd_ne hb] at this, fun a h => by
    rcases n2.oa a h with h | h
    · exact .inl h
    · right
      by_cases hb : a = p
      · subst hb; exact hp
      · rwa [upd_ne hb] at h⟩
  exact up p (.dct _ _) _ S2 n3 rel3 ⟨mergeK [] kvs, upd_same, e2, e3.step st⟩ hp np2 q2
/-- a display by value -/
def pFrzO (t : PTO) : PTE := fun S Q E => t S (fun o S1 => match o with
  | .lst xs => Q (.lst xs) S1
  | .dct ks vs => Q (.dct ks vs) S1
  | _ => False) E
theorem pm_frzO {e : Expr} {t : PTO} (h : PMO X e t) : PM X e (pFrzO t) := fun W tk => weakE (pe_frz (h W tk)) fun σ H Q => by
  rintro ⟨S, Q', E', rel, q, up, ux⟩
  refine ⟨S, _, E', rel, q, fun a o H1 S1 n1 r1 ow hn no q1 => ?_, ux⟩
  have fin : ∀ (u : HO) (d : D) (f : Obj), H1 a = some u → ¬ Perm u → (∀ {A : Addr → Prop}, A a → Step A H1 (upd H1 a (.frz f u)) → Rep X.K (upd H1 a (.frz f u)) (.ref a) d) → Q' d S1 → Q (.ref a) (upd H1 a (.frz f u)) := fun u d f hu np rp q2 => by
    have st : Step (fun b => b = a) H1 (upd H1 a (.frz f u)) := fun b w eb q => by
      by_cases hb : b = a
      · subst hb
        rw [hu] at eb
        cases eb
        rcases q with q | q
        · exact absurd q np
        · exact absurd rfl q
      · rw [upd_ne hb]; exact eb
    have n3 : Nx σ S H σ S1 (upd H1 a (.frz f u)) := ⟨fun b w eb q => by
      have hb : b ≠ a := fun e => by subst e; rw [hn] at eb; cases eb
      rw [upd_ne hb]
      exact n1.st b w eb q, fun b eb => by
      by_cases hb : b = a
      · subst hb; exact hn
      · rw [upd_ne hb] at eb; exact n1.kn b eb, fun b h => n1.oa b h⟩
    exact up _ _ _ _ n3 (r1.step st fun b hb e => no (e ▸ hb)) (rp (A := fun b => b = a) rfl st) q2
  cases o with
  | lst xs =>
    obtain ⟨ys, h1, h2⟩ := ow
    exact .inr ⟨a, _, rfl, h1, .inl ⟨_, rfl⟩, fun f => fin _ _ f h1 (fun z => z) (fun _ st => .lst (.inl ⟨f, upd_same⟩) (h2.step st)) q1⟩
  | dct ks vs =>
    obtain ⟨kvs, h1, rfl, h2⟩ := ow
    exact .inr ⟨a, _, rfl, h1, .inr ⟨_, rfl⟩, fun f => fin _ _ f h1 (fun z => z) (fun _ st => .dct upd_same (h2.step st)) q1⟩
  | ins C ns ds => exact q1.elim
  | tbl q => exact q1.elim
/-- what a dict, tracked or frozen, holds at a key -/
def dctC : Con → Option (List D × List D)
  | .val (.dct ks vs) => some (ks, vs)
  | .own (.dct ks vs) => some (ks, vs)
  | _ => none
theorem dct_get {K : PySem.W.Frag} {H : Hp} {v : V} {c : Con} {ks vs : List D} (rc : RepC K H v c) (hc : dctC c = some (ks, vs)) :
    ∃ a, v = .ref a ∧ IsD H a ∧ ∀ (w : V) (y : D), Rep K H w y → (keyK y).isSome = true → ∃ r, DGet H a w r ∧ match dget ks vs y with
      | some d => ∃ z, r = some z ∧ Rep K H z d
      | none => r = none := by
  have key : ∀ (a : Addr) (kvs : List (Key × V)), Rd H a (.dK kvs) → ks = kvs.map (fun p => keyD p.1) → RepAll K H (kvs.map (·.2)) vs → IsD H a ∧ ∀ (w : V) (y : D), Rep K H w y → (keyK y).isSome = true → ∃ r, DGet H a w r ∧ match dget ks vs y with
      | some d => ∃ z, r = some z ∧ Rep K H z d
      | none => r = none := fun a kvs hr e ra => by
    refine ⟨.inl ⟨kvs, hr⟩, fun w y ry hk => ?_⟩
    obtain ⟨k, hk⟩ := Option.isSome_iff_exists.mp hk
    have ek := keyK_some hk
    subst ek
    subst e
    have g := dget_rep (k := k) ra
    refine ⟨valV kvs k, ?_, ?_⟩
    · rw [keyV ry]; exact .inl ⟨kvs, k, hr, rfl, rfl⟩
    · split at g
      · rename_i d e; (try rw [e]); exact g
      · rename_i e; (try rw [e]); exact g
  unfold dctC at hc
  split at hc
  · cases hc
    cases rc with
    | dct h r => exact ⟨_, rfl, key _ _ (.inr ⟨_, h⟩) rfl r⟩
  · cases hc
    obtain ⟨a, rfl, kvs, h, e, r⟩ := rc
    exact ⟨a, rfl, key _ _ (.inl h) e r⟩
  · cases hc
def isDc (c : Con) : Prop := (dctC c).isSome = true
def getC (c : Con) (y z : D) (Q : D → Prop) : Prop := ∃ ks vs, dctC c = some (ks, vs) ∧ (keyK y).isSome = true ∧ Q ((dget ks vs y).getD z)
/-- d.get(k, z) -/
def pGet2 (tk : PTK) (ty tz : PTE) : PTE := fun S Q E => tk S (fun p S1 => isDc (con S1 p) ∧ ty S1 (fun y S2 => tz S2 (fun z S3 => getC (con S3 p) y z fun v => Q v S3) E) E) E
theorem pm_get2 {o e f : Expr} {apos cpos : Pos} {tk : PTK} {ty tz : PTE} (hu : X.A.units + 1 < cLine) (ho : PK X o tk) (he : PM X e ty) (hf : PM X f tz) (m : M2 X o "get" apos e f cpos) : PM X (.Call (.Attribute o "get" apos) [e, f] [] cpos) (pGet2 tk ty tz) := fun W t =>
  weakE (pe_dget2 hu (ho W t) (he W t) (hf W t) m) fun σ H Q => by
    rintro ⟨S, Q', E', rel, q, up, ux⟩
    refine ⟨S, _, E', rel, q, fun v p H1 S1 n1 r1 p1 q1 => ?_, ux⟩
    obtain ⟨q0, q1⟩ := q1
    obtain ⟨⟨ks, vs⟩, hd⟩ := Option.isSome_iff_exists.mp q0
    obtain ⟨a, rfl, hi, _⟩ := dct_get (con_rep r1 p1) hd
    refine ⟨a, rfl, hi, ⟨S1, _, E', r1, q1, fun w y H2 S2 n2 r2 p2 q2 => ⟨S2, _, E', r2, q2, fun u z H3 S3 n3 r3 p3 q3 => ?_, ux.thn (n1.trans n2)⟩, ux.thn n1⟩⟩
    obtain ⟨ks, vs, hc, hk, q3⟩ := q3
    obtain ⟨a', ea, _, g⟩ := dct_get (con_rep r3 ((p1.nx n2).nx n3)) hc
    cases ea
    obtain ⟨r, g1, g2⟩ := g w y (Rep.nx n3 p2) hk
    refine ⟨r, g1, ?_⟩
    have f := up.fin ((n1.trans n2).trans n3) r3
    split at g2
    · rename_i d e
      obtain ⟨z', rfl, rz⟩ := g2
      rw [e] at q3
      exact f.at rz q3
    · rename_i e
      subst g2
      rw [e] at q3
      exact f.at p3 q3
/-- k in d, k not in d: a dict -/
def pInK (neg : Bool) (ty : PTE) (tk : PTK) : PTE := fun S Q E => ty S (fun y S1 => tk S1 (fun p S2 => ∃ ks vs, dctC (con S2 p) = some (ks, vs) ∧ (keyK y).isSome = true ∧ Q (.bl (if neg then !(dget ks vs y).isSome else (dget ks vs y).isSome)) S2) E) E
end
def kFrz (Q : PQ) : Own → Sta → Prop := fun o S1 => match o with
  | .lst xs => Q (.lst xs) S1
  | .dct ks vs => Q (.dct ks vs) S1
  | _ => False
theorem pFrzO_eq (t : PTO) (S : Sta) (Q : PQ) (E : PX) : pFrzO t S Q E = t S (kFrz Q) E := rfl
theorem kFrz_lst (Q : PQ) (xs : List D) (S : Sta) : kFrz Q (.lst xs) S = Q (.lst xs) S := rfl
theorem kFrz_dct (Q : PQ) (ks vs : List D) (S : Sta) : kFrz Q (.dct ks vs) S = Q (.dct ks vs) S := rfl
theorem pPairs_nil (S : Sta) (Q : List (D × D) → Sta → Prop) (E : PX) : pPairs [] S Q E = Q [] S := rfl
theorem pPairs_cons (a b : PTE) (r : List (PTE × PTE)) (S : Sta) (Q : List (D × D) → Sta → Prop) (E : PX) : pPairs ((a, b) :: r) S Q E = a S (fun k S1 => b S1 (fun v S2 => pPairs r S2 (fun ps S3 => Q ((k, v) :: ps) S3) E) E) E := rfl
theorem getC_val (S : Sta) (ks vs : List D) (y z : D) (Q : D → Prop) : getC (con S (.val (.dct ks vs))) y z Q = ((keyK y).isSome = true ∧ Q ((dget ks vs y).getD z)) := by
  apply propext
  constructor
  · rintro ⟨_, _, h, r⟩; cases h; exact r
  · exact fun r => ⟨_, _, rfl, r⟩
theorem isDc_val (S : Sta) (ks vs : List D) : isDc (con S (.val (.dct ks vs))) = True := eq_true rfl
theorem lcW_ind (I : List D → List D → Sta → Prop) {g : PTG} {tt : PTT} {te : PTE} {vs : List Nat} {Q : PQ} (nil : ∀ acc S, I [] acc S → Q (.lst acc) S)
    (cons : ∀ a r acc S (K : List D → Sta → Prop), I (a :: r) acc S → (∀ acc' S', I r acc' S' → K acc' S') →
      g a S fun S2 => tt S2 (fun b S3 => if b = true then te S3 (fun y S4 => acc.length < sizeLine ∧ K (acc ++ [y]) (wipS S4 vs)) noX else K acc (wipS S3 vs)) noX)
    (xs acc : List D) (S : Sta) (h : I xs acc S) : lcW g tt te vs Q xs acc S := by
  have := lcW_list (fun d : D => d) I (g := g) (tt := tt) (te := te) (vs := vs) (Q := Q) nil cons xs acc S h
  rwa [List.map_id'] at this
theorem forW_ind (I : List D → Sta → Prop) {g : PTG} {tb : PTS} {P : PEnds} (nil : ∀ S, I [] S → P.nx S)
    (cons : ∀ a r S (K : Sta → Prop), I (a :: r) S → (∀ S', I r S' → K S') → g a S fun S2 => tb { P with nx := K, ct := K, bk := P.nx } S2)
    (xs : List D) (S : Sta) (h : I xs S) : forW g tb P xs S := by
  have := forW_list (fun d : D => d) I (g := g) (tb := tb) (P := P) nil cons xs S h
  rwa [List.map_id'] at this
/-- list + list, kept as an own list -/
def catD (x y : D) (Q : List D → Prop) : Prop := ∃ xs ys, x = .lst xs ∧ y = .lst ys ∧ xs.length + ys.length ≤ sizeLine ∧ Q (xs ++ ys)
theorem catD_l (xs ys : List D) (Q : List D → Prop) : catD (.lst xs) (.lst ys) Q = (xs.length + ys.length ≤ sizeLine ∧ Q (xs ++ ys)) := by
  apply propext
  constructor
  · rintro ⟨_, _, h1, h2, r⟩; cases h1; cases h2; exact r
  · exact fun r => ⟨_, _, rfl, rfl, r⟩
def poCat (ta tb : PTE) : PTO := fun S Q E => ta S (fun x S1 => tb S1 (fun y S2 => catD x y fun zs => Q (.lst zs) S2) E) E
theorem pmo_cat {X : Cx} {a b : Expr} {ta tb : PTE} {pos : Pos} (ha : PM X a ta) (hb : PM X b tb) : PMO X (.BinOp a .Add b pos) (poCat ta tb) := fun W tk => weakE (pe_op op_catL (ha W tk) (hb W tk)) fun σ H Q => by
  rintro ⟨S, Q', E', rel, q, up, ux⟩
  refine ⟨S, _, E', rel, q, fun v d H1 S1 n1 r1 p1 q1 => ?_, ux⟩
  refine ⟨S1, _, E', r1, q1, fun w e H2 S2 n2 r2 p2 q2 => ?_, ux.thn n1⟩
  obtain ⟨xs, ys, rfl, rfl, hz, q2⟩ := q2
  have p1 := Rep.nx n2 p1
  cases p1 with
  | lst h1 ra =>
  cases p2 with
  | lst h2 rb =>
    rename_i a1 us a2 ws
    refine ⟨_, _, us, ws, rfl, rfl, h1.sq, h2.sq, by rw [ra.length, rb.length]; exact hz, fun p hp => ?_⟩
    have s : Same H2 (upd H2 p (.lst (us ++ ws))) := same_new hp
    have n := n1.trans n2
    exact up p (.lst (xs ++ ys)) _ _ (n.trans (.same s)) (r2.same s) ⟨us ++ ws, upd_same, (ra.append rb).step (A := fun _ => False) (Step.of_same s)⟩ (n.kn p hp) (r2.fresh hp) q2
end Pl
set_option Elab.async false
set_option linter.all false
set_option maxRecDepth 100000
set_option maxHeartbeats 4000000
/-! PlEnd: a law's end -/
namespace Pl
open PySem PySem.Spec L2
theorem exm_of {K : PySem.W.Frag} {S C : Addr} {b : Bool} (h1 : PySem.W.subIn K (.ref C) (.type "BaseException") = some true) (h2 : PySem.W.isClsIn K C = true) (h3 : PySem.W.typeIn K (.ref C) = some (.type "type")) (h4 : PySem.W.subIn K (.ref S) (.ref C) = some b) :
    PySem.W.exmOne K (.ref S) (.ref C) = some b := by
  have e1 : (PySem.W.subIn K (.ref C) (.type "BaseException") == some true) = true := by rw [h1] <;> rfl
  have e2 : ((PySem.W.clsIn K C).isSome && PySem.W.typeIn K (.ref C) == some (.type "type")) = true := by
    have h2' : (PySem.W.clsIn K C).isSome = true := h2
    rw [h2', h3] <;> rfl
  show (if (PySem.W.subIn K (.ref C) (.type "BaseException") == some true) = true then (if ((PySem.W.clsIn K C).isSome && PySem.W.typeIn K (.ref C) == some (.type "type")) = true then PySem.W.subIn K (.ref S) (.ref C) else none) else none) = some b
  rw [if_pos e1, if_pos e2]
  exact h4
theorem kit_of {K : PySem.W.Frag} {S C : Addr} (h2 : PySem.W.isClsIn K C = true) (h3 : PySem.W.typeIn K (.ref C) = some (.type "type")) (h4 : PySem.W.subIn K (.ref S) (.ref C) = some true) :
    PySem.W.kitOne K (.ref S) (.ref C) = some true := by
  have e2 : ((PySem.W.clsIn K C).isSome && PySem.W.typeIn K (.ref C) == some (.type "type")) = true := by
    have h2' : (PySem.W.clsIn K C).isSome = true := h2
    rw [h2', h3] <;> rfl
  unfold PySem.W.kitOne
  split
  · rfl
  · show (if ((PySem.W.clsIn K C).isSome && PySem.W.typeIn K (.ref C) == some (.type "type")) = true then PySem.W.subIn K (.ref S) (.ref C) else none) = some true
    rw [if_pos e2]
    exact h4
theorem gt_of {K : PySem.W.Frag} {w : World} {mg : Str → Option Value} {x : Str} {p : Addr} {tab : List (Str × D)} (hm : mg x = some (.ref p)) (h : ∀ zd, zd ∈ tab → ∃ v, KDct K w p zd.1 v ∧ ∀ H, Rep K H v zd.2) : GT K w mg x tab := by
  refine ⟨p, hm, fun z d e => ?_⟩
  have key : ∀ t : List (Str × D), t.lookup z = some d → (z, d) ∈ t := fun t => by
    induction t with
    | nil => intro h; cases h
    | cons q r ih =>
      intro h
      rw [List.lookup_cons] at h
      split at h
      · rename_i c
        have c := eq_of_beq c
        cases h
        subst c
        exact List.mem_cons_self ..
      · exact List.mem_cons_of_mem _ (ih h)
  exact h (z, d) (key tab e)
theorem low_none {P : Program} {w : World} {K : PySem.W.Frag} {mg : Str → Option Value} {base : Heap} {x : Str} {ps : List Str} {st : Stmt} {k n : Nat} {φ : PFn} (T : TopD K mg x ps st) (hn : ps.length = n) (h : ∀ ds Wo Q E, ¬ φ ds Wo Q E) : CallF P w K mg base x n k φ := by
  subst hn
  exact (call_none T).wk fun ds Wo Q E z => h ds Wo Q E z
/-- a callee's promise for less deep things -/
def lowφ (m : Nat) (φ : Nat → PFn) (d : Nat) : PFn := fun ds W Q E => m ≤ d ∧ φ (d - 1) ds W Q E
/-- the given list -/
theorem script_rep {K : PySem.W.Frag} {H : Hp} {a : Addr} {ns : List Int} (hO : Only H) (hS : SqL K H a (ns.map V.int)) : Rep K H (.ref a) (.lst (ns.map D.int)) := by
  have ra : RepAll K H (ns.map V.int) (ns.map D.int) := by
    clear hS
    induction ns with
    | nil => exact .nil
    | cons n r ih => exact .cons (.int n) ih
  refine .lst ?_ ra
  rcases hS with (h | h) | h
  · rcases hO a with e | ⟨o, xs, e⟩
    · rw [e] at h; cases h
    · rw [e] at h; cases h
  · exact .inl h
  · exact .inr h
theorem law_sp {K : PySem.W.Frag} {H : Hp} {a : Addr} {ns : List Int} {φ : PFn} (hφ : ∀ (ds : List D) Wo (Q : D → (Addr → Option Own) → Prop) E, ds = [.lst (ns.map D.int)] → (∀ W', Q (.bl true) W') → φ ds Wo Q E) (hO : Only H) (hS : SqL K H a (ns.map V.int)) :
    spP K 1 φ [.ref a] H (fun v _ => v = .bl true) fun _ _ _ => False := by
  refine ⟨[.lst (ns.map D.int)], fun _ => none, fun d _ => d = .bl true, fun _ _ => False, rfl, .cons (script_rep hO hS) .nil, fun _ _ h => by (cases h), hφ _ _ _ _ rfl fun _ => rfl, fun v d H' W' _ _ r e => ?_, fun _ _ _ _ _ _ _ _ h => h⟩
  subst e
  cases r
  rfl
theorem cx_end {P : Program} {w : World} {H : Hp} {s : Shared} {e : Value} {s' : Shared} (h : L2.CX P w [] H s (fun _ _ _ => False) e s') : False := by
  obtain ⟨_, _, _, _, _, _, _, _, _, _, _, _, h⟩ := h
  exact h
end Pl
set_option Elab.async false
set_option linter.all false
set_option maxRecDepth 100000
set_option maxHeartbeats 4000000
/-! PlI: instances of own classes, their attributes, methods, special methods -/
namespace Pl
open PySem PySem.Spec L2 PyProof.Rows
/-! ### calls of a def by its address, what it raises told at the slots -/
section
variable {X : Cx} {k : Nat} {f C : Addr} {sp : Sp} {E : L2.St → XK} {pins : List (Addr × Obj)} {σ : L2.St} {H : Hp} {s : Shared}
theorem call_at {A : Around} {Q : VK} {us : List Value} {vs : List V} (F : FnR X.prog X.w X.K X.mg X.base (L2.CX X.prog X.w) k f sp) (hr : Room k A) (e0 : Env0 X.prog X.w X.K X.mg X.base A X.stack s H)
    (hx : PassesAt (L2.CX X.prog X.w) X σ (E σ)) (I : Inv X pins σ H s) (r : Vals vs us) (h : sp vs H Q (E σ)) : wpAny (model X.prog X.w) A (call (.ref f) us) (EP X pins σ Q) X.xe s := by
  refine wpAny_call (codeAny_mono (F A X.stack s H us vs Q (E σ) hr e0 r h) fun r2 s2 hq => ?_)
  match r2, hq with
  | .error e, hq => exact hx pins H s e s2 I hq
  | .ok (.ret u), hq => exact I.after hq
  | .ok .next, hq => exact hq.elim
  | .ok .brk, hq => exact hq.elim
  | .ok .cont, hq => exact hq.elim
theorem inst_of {dx : Addr} {fs : List (Str × V)} (I : Inv X pins σ H s) (e : H f = some (.ins C dx fs)) : ∃ ox od, PySem.W.InstAt s.heap f ox C od ∧ ox.data = .plain := by
  obtain ⟨_, O, _⟩ := ins_get I.hok e
  obtain ⟨_, J, _⟩ := O.look
  exact ⟨_, _, J, rfl⟩
theorem back_of {P : Value → Shared → Prop} {z : V} {v : Value} {s' : Shared} (r : RelV z v) (h : P v s') : PySem.W.CmpBack P v s' := SlX.cmpback r h
variable {a b : Expr} {ta tb : TE} {g : Addr} {pos : Pos}
/-- an instance of C among the operands -/
def InsV (H : Hp) (C : Addr) (x : V) : Prop := ∃ p dx fs, x = .ref p ∧ H p = some (.ins C dx fs)
/-- a[b], a an instance whose class has its own items -/
def tIxOwn (C : Addr) (sp : Sp) (E : L2.St → XK) (ta tb : TE) : TE := fun σ H Q => ta σ H fun x H1 => tb σ H1 fun y H2 => InsV H2 C x ∧ sp [x, y] H2 Q (E σ)
theorem pe_ixOwn (hs : PySem.W.findIn X.K (.ref C) "__getitem__" = some (some (.ref g))) (hf : PySem.W.isFn X.K (.ref g) = true) (hn : PySem.W.fnIn X.K g = true) (F : FnR X.prog X.w X.K X.mg X.base (L2.CX X.prog X.w) k g sp) (hr : Room (k + 1) X.A)
    (hx : ∀ σ, PassesAt (L2.CX X.prog X.w) X σ (E σ)) (ha : PE X a ta) (hb : PE X b tb) (hp : ∀ (p : Addr) (i : Value), subscripted b true (.ref p) i = runValue (.builtin "lifetime.subscript" ⟨[.ref p, i], []⟩)) :
    PE X (.Subscript a b pos) (tIxOwn C sp E ta tb) := by
  refine ⟨fun pins s σ H Q I h => ?_⟩
  refine Subscript_ (binT ha hb I (R := fun x y H2 => InsV H2 C x ∧ sp [x, y] H2 Q (E σ)) h fun v u s2 x y H2 I2 rx ry q => ?_)
  obtain ⟨⟨p, dx, fs, rfl, hi⟩, q⟩ := q
  cases (show v = Value.ref p from rx)
  obtain ⟨ox, od, J, _⟩ := inst_of I2 hi
  obtain ⟨m, hF⟩ := I2.fr
  exact PySem.W.sub_K hF I2.ok.mod.kin J hs hn hf (call_at F hr.in1 I2.env0.in1 (hx σ) I2 (.cons rx (.cons ry .nil)) q) (hp p u)
/-- a op b, a an instance with its own answer -/
def tCmpOwn (K : PySem.W.Frag) (C : Addr) (sp : Sp) (E : L2.St → XK) (ta tb : TE) : TE := fun σ H Q => ta σ H fun x H1 => tb σ H1 fun y H2 => InsV H2 C x ∧ InsV H2 C y ∧ sp [x, y] H2 Q (E σ)
theorem pc_own {op : CmpOp} (hop : ∀ a b, compareOp op a b = richCompare op a b) (hs : PySem.W.findIn X.K (.ref C) (cmpInfo op).2.1 = some (some (.ref g))) (hf : PySem.W.isFn X.K (.ref g) = true) (F : FnR X.prog X.w X.K X.mg X.base (L2.CX X.prog X.w) k g sp) (hr : Room k X.A)
    (hx : ∀ σ, PassesAt (L2.CX X.prog X.w) X σ (E σ)) (ha : PE X a ta) (hb : PE X b tb) : PC X op a b (tCmpOwn X.K C sp E ta tb) := by
  refine ⟨fun pins s σ H Q I h => binT ha hb I (R := fun x y H2 => InsV H2 C x ∧ InsV H2 C y ∧ sp [x, y] H2 Q (E σ)) h fun v u s2 x y H2 I2 rx ry q => ?_⟩
  obtain ⟨⟨p, dx, fs, rfl, hi⟩, ⟨p2, dx2, fs2, rfl, hi2⟩, q⟩ := q
  cases (show v = Value.ref p from rx)
  cases (show u = Value.ref p2 from ry)
  obtain ⟨ox, od, J, _⟩ := inst_of I2 hi
  obtain ⟨ox2, od2, J2, _⟩ := inst_of I2 hi2
  obtain ⟨m, hF⟩ := I2.fr
  rw [hop]
  refine PySem.W.cmp_K (op := op) (tb := .ref C) hr.units0 hF I2.ok.mod.kin J J2.type (by unfold PySem.W.notFirst; simp) hs hf ?_
  refine wpAny_mono (call_at F hr I2.env0 (hx σ) I2 (.cons rx (.cons ry .nil)) q) (fun w s3 z => ?_) fun _ _ x => x
  obtain ⟨z', H', I', rz, qz⟩ := z
  exact back_of rz ⟨z', H', I', rz, qz⟩
/-- x op= e, x an instance with its own answer -/
def tAugOwn (C : Addr) (sp : Sp) (E : L2.St → XK) (i : Nat) (te : TE) : TS := fun D σ H => ∃ x, σ[i]? = some (some x) ∧ te σ H fun y H1 => InsV H1 C x ∧ sp [x, y] H1 (fun z H2 => D.nx (σ.set i (some z)) H2) (E σ)
theorem ps_augOwn {i : Nat} {x : Str} {e : Expr} {te : TE} {op : Operator} {pos' : Pos} (hc : PySem.W.selfFirst X.K C = true) (hs : PySem.W.findIn X.K (.ref C) (dunderI op.info.2) = some (some (.ref g))) (hf : PySem.W.isFn X.K (.ref g) = true)
    (F : FnR X.prog X.w X.K X.mg X.base (L2.CX X.prog X.w) k g sp) (hr : Room k X.A) (hx : ∀ σ, PassesAt (L2.CX X.prog X.w) X σ (E σ)) (hN : X.N.Nodup) (hi : X.N[i]? = some x) (hl : Loc X.env.scope x) (he : PE X e te)
    (hfn : X.fn x = true ∨ X.env.scope.names.lookup x = some .local := by first | exact .inl rfl | exact .inr rfl | assumption) : PS X (.AugAssign (.Name x pos') op e pos) (tAugOwn C sp E i te) := by
  refine ⟨fun pins s σ H D I h => ?_⟩
  obtain ⟨v, e1, h⟩ := h
  obtain ⟨m, hn, loc⟩ := I.loc
  obtain ⟨u, r, l⟩ := loc i x v hi e1 (hl.elim (fun z => .inl z) fun z => .inr (.inl z))
  refine wpAny_AugAssign_Name ?_
  have go : wpAny (model X.prog X.w) X.A (eval e X.env) (fun w s₂ => wpAny (model X.prog X.w) X.A (inplaceOp op u w) (fun r s₃ => wpAny (model X.prog X.w) X.A (storeName X.env x r) (fun _ => SP X pins D .next) X.xe s₃) X.xe s₂) X.xe s := by
    refine thn (he.run pins s σ H _ I h) fun w s1 ⟨y, H1, I1, r1, q1⟩ => ?_
    obtain ⟨⟨p, dx, fs, rfl, hins⟩, q1⟩ := q1
    cases (show u = Value.ref p from r)
    obtain ⟨ox, od, J, _⟩ := inst_of I1 hins
    obtain ⟨m1, hF⟩ := I1.fr
    refine PySem.W.ksp_inplace hF I1.ok.mod.kin J hc hs hf (wpAny_mono (call_at F hr I1.env0 (hx σ) I1 (.cons r (.cons r1 .nil)) q1) (fun z s2 hz => ?_) fun _ _ x => x)
    obtain ⟨zv, H2, I2, rz, q2⟩ := hz
    exact back_of rz (store_ok I2 hN hi hl rz (fun s3 I3 => ⟨_, H2, I3, q2⟩) hfn)
  rcases l with ⟨hk, hm⟩ | ⟨hk | hk, c, hc, hcell⟩
  · exact wpAny_loadName_local I.ok.kind hk hn hm go
  · exact wpAny_loadName_cell I.ok.kind hk hc hcell go
  · rcases hl with z | z <;> (rw [show X.env.scope.names.lookup x = some .free from hk] at z; cases z)
end
end Pl
set_option Elab.async false
set_option linter.all false
set_option maxRecDepth 100000
set_option maxHeartbeats 4000000
/-! PlI2: instances over data -/
namespace Pl
open PySem PySem.Spec L2
/-- what a method of the class at C promises -/
structure MetF (P : Program) (w : World) (K : PySem.W.Frag) (mg : Str → Option Value) (base : Heap) (C : Addr) (m : Str) (n k : Nat) (φ : PFn) : Prop where
  ex : ∃ g, PySem.W.findIn K (.ref C) m = some (some (.ref g)) ∧ PySem.W.isFn K (.ref g) = true ∧ PySem.W.fnIn K g = true ∧ FnR P w K mg base (L2.CX P w) k g (spP K n φ)
theorem MetF.wk {P : Program} {w : World} {K : PySem.W.Frag} {mg : Str → Option Value} {base : Heap} {C : Addr} {m : Str} {n k : Nat} {φ ψ : PFn} (c : MetF P w K mg base C m n k φ) (h : ∀ ds Wo Q E, ψ ds Wo Q E → φ ds Wo Q E) : MetF P w K mg base C m n k ψ := by
  obtain ⟨g, h1, h2, h3, F⟩ := c.ex
  exact ⟨g, h1, h2, h3, F.imp fun vs H Q E ⟨ds, Wo, Q', E', a, b, c, d, e⟩ => ⟨ds, Wo, Q', E', a, b, c, h _ _ _ _ d, e⟩⟩
theorem MetF.up {P : Program} {w : World} {K : PySem.W.Frag} {mg : Str → Option Value} {base : Heap} {C : Addr} {m : Str} {n k j : Nat} {φ : PFn} (c : MetF P w K mg base C m n k φ) (h : k ≤ j) : MetF P w K mg base C m n j φ := by
  obtain ⟨g, h1, h2, h3, F⟩ := c.ex
  exact ⟨g, h1, h2, h3, F.mono h⟩
/-- what a class must have for its instances -/
structure InC (K : PySem.W.Frag) (C : Addr) : Prop where
  cl : Cls K C
  self : PySem.W.selfFirst K C = true
/-! ### attributes: names beside values -/
def putN (f : Str) (d : D) : List Str → List D → List Str × List D
  | g :: r, x :: s => if g = f then (g :: r, d :: s) else (g :: (putN f d r s).1, x :: (putN f d r s).2)
  | _, _ => ([f], [d])
def getN (f : Str) (ns : List Str) (ds : List D) : Option D := (ns.zip ds).lookup f
section
variable {K : PySem.W.Frag} {H : Hp}
theorem getN_rep {f : Str} {d : D} : ∀ {fs : List (Str × V)} {ds : List D}, RepAll K H (fs.map (·.2)) ds → getN f (fs.map (·.1)) ds = some d → ∃ v, fs.lookup f = some v ∧ Rep K H v d
  | [], _, .nil, h => by cases h
  | (g, v) :: fs, x :: ds, .cons hv hr, h => by
    unfold getN at h
    rw [List.map_cons, List.zip_cons_cons, List.lookup_cons] at h
    rw [List.lookup_cons]
    cases e : f == g
    · rw [e] at h; exact getN_rep hr h
    · rw [e] at h; cases h; exact ⟨v, rfl, hv⟩
theorem putN_rep {f : Str} {v : V} {d : D} (hv : Rep K H v d) : ∀ {fs : List (Str × V)} {ds : List D}, RepAll K H (fs.map (·.2)) ds → (putN f d (fs.map (·.1)) ds).1 = (putF f v fs).map (·.1) ∧ RepAll K H ((putF f v fs).map (·.2)) (putN f d (fs.map (·.1)) ds).2
  | [], _, .nil => ⟨rfl, .cons hv .nil⟩
  | (g, x) :: fs, y :: ds, .cons h1 hr => by
    rw [List.map_cons]
    unfold putN putF
    by_cases e : g = f
    · rw [if_pos e, if_pos e]; exact ⟨rfl, .cons hv hr⟩
    · rw [if_neg e, if_neg e]
      obtain ⟨a, b⟩ := putN_rep hv hr
      exact ⟨by simp only [List.map_cons, a], .cons h1 b⟩
end
section
variable {X : Cx} {C : Addr} {f : Str} {e a b : Expr} {ta tb te : PTE} {pos : Pos}
/-- a value that is an own instance of C -/
def insW (S : Sta) (C : Addr) (d : D) (P : Addr → List Str → List D → Prop) : Prop := ∃ p ns ds, d = .adr p ∧ S.W p = some (.ins C ns ds) ∧ P p ns ds
/-- e.f, an attribute -/
def pFld (C : Addr) (f : Str) (ta : PTE) : PTE := fun S Q E => ta S (fun x S1 => insW S1 C x fun _ ns ds => ∃ d, getN f ns ds = some d ∧ Q d S1) E
theorem pm_fld (c : Cls X.K C) (n : NoAttr X.K C f) (ha : PM X e ta) (hb : attributeBase e f X.env (eval e X.env) = eval e X.env := by rfl) : PM X (.Attribute e f pos) (pFld C f ta) := fun W tk => weakE (pe_fld (ha W tk) hb) fun σ H Q => by
  rintro ⟨S, Q', E', rel, q, up, ux⟩
  refine ⟨S, _, E', rel, q, fun v x H1 S1 n1 r1 p1 q1 => ?_, ux⟩
  obtain ⟨p, ns, ds, rfl, hw, d, hg, q1⟩ := q1
  cases p1
  obtain ⟨dx, fs, hi, rfl, ra⟩ := r1.wor p _ hw
  obtain ⟨v, hl, rv⟩ := getN_rep ra hg
  exact ⟨p, C, dx, fs, v, rfl, hi, c, n, hl, up v d H1 S1 n1 r1 rv q1⟩
/-- o.f = e -/
def pStoreF (C : Addr) (f : Str) (te ta : PTE) : PTS := fun P S => te S (fun d S1 => ta S1 (fun x S2 => insW S2 C x fun p ns ds => ns.length < 1000 ∧ P.nx (putC S2 (.val (.adr p)) (.ins C (putN f d ns ds).1 (putN f d ns ds).2))) P.ex) P.ex
theorem con_ins {S : Sta} {p : Addr} {o : Own} (h : S.W p = some o) : con S (.val (.adr p)) = .own o := by
  show (match S.W p with | some o => Con.own o | none => .val (.adr p)) = _
  rw [h]
theorem pms_storeF {o : Expr} {pos' : Pos} (c : Cls X.K C) (n : NoAttr X.K C f) (hv : PM X e te) (ha : PM X o ta) (hs : swapsWith e (some (.Attribute o f pos')) pos.line X.env = pure false := by rfl) : PMS X (.Assign [.Attribute o f pos'] e pos) (pStoreF C f te ta) := fun W tk => weakS (ps_fld (ha W tk) (hv W tk) hs) fun D σ H => by
  rintro ⟨S, P, rel, q, up⟩
  refine ⟨S, _, _, rel, q, fun v d H1 S1 n1 r1 p1 q1 => ?_, up.ux⟩
  refine ⟨S1, _, _, r1, q1, fun x y H2 S2 n2 r2 p2 q2 => ?_, up.ux.thn n1⟩
  obtain ⟨p, ns, ds, rfl, hw, hl, q2⟩ := q2
  have rd := p1.nx n2
  obtain ⟨a, rfl, ⟨dx, fs, hi, rfl, ra⟩, mt⟩ := r2.mut (con_ins hw) (show RepK X.K H2 σ x (.val (.adr p)) from p2)
  cases p2
  obtain ⟨nx, r'⟩ := mt (.ins C (putN f d (fs.map (·.1)) ds).1 (putN f d (fs.map (·.1)) ds).2) (.ins C dx (putF f v fs)) fun H4 st h4 => ⟨dx, _, h4, (putN_rep (rd.step st) (ra.step st)).1, (putN_rep (rd.step st) (ra.step st)).2⟩
  exact ⟨p, C, dx, fs, rfl, hi, c, n, by rwa [List.length_map] at hl, up.nx _ _ _ ((n1.trans n2).trans nx) r' q2⟩
/-! ### special methods -/
variable {k : Nat} {φ : PFn}
/-- a callee that works on what two values are -/
def by2 (φ : PFn) (x y : D) (S : Sta) (Q : PQ) (E : PX) : Prop := φ [x, y] S.W (fun d W' => Q d ⟨S.ρ, W'⟩) fun e W' => E e ⟨S.ρ, W'⟩
theorem spP_two {σ : St} {S S2 : Sta} {H H2 : Hp} {K : PySem.W.Frag} {W : WX} {Q : VK} {Q' : PQ} {E' : PX} {v v2 : V} {d d2 : D} (n : Nx σ S H σ S2 H2) (r2 : Rel K H2 σ S2) (p1 : Rep K H2 v d) (p2 : Rep K H2 v2 d2) (up : Up K σ S H Q Q') (ux : UpX K σ S H W E') (q : by2 φ d d2 S2 Q' E') :
    spP K 2 φ [v, v2] H2 Q (fun cls dd H => W cls dd σ H) := by
  refine ⟨[d, d2], S2.W, _, _, rfl, .cons p1 (.cons p2 .nil), r2.wor, q, fun v d H' W' nw rw' rp q2 => ?_, fun y c dd H' W' nw rw' xr q2 => ?_⟩
  · obtain ⟨nx, r⟩ := r2.after nw rw'
    exact up v d H' _ (n.trans nx) r rp q2
  · obtain ⟨nx, r⟩ := r2.after nw rw'
    exact ux y c dd H' _ (n.trans nx) r xr q2
def pIxOwn (C : Addr) (φ : PFn) (ta tb : PTE) : PTE := fun S Q E => ta S (fun x S1 => tb S1 (fun y S2 => insW S2 C x fun _ _ _ => by2 φ x y S2 Q E) E) E
theorem pm_ixOwn (c : MetF X.prog X.w X.K X.mg X.base C "__getitem__" 2 k φ) (hr : Room (k + 1) X.A) (ha : PM X a ta) (hb : PM X b tb) (hp : ∀ (p : Addr) (i : Value), subscripted b true (.ref p) i = runValue (.builtin "lifetime.subscript" ⟨[.ref p, i], []⟩)) :
    PM X (.Subscript a b pos) (pIxOwn C φ ta tb) := fun W tk => by
  obtain ⟨g, h1, h2, h3, F⟩ := c.ex
  refine weakE (pe_ixOwn (E := WE W) h1 h2 h3 F hr (fun σ => passAt tk σ) (ha W tk) (hb W tk) hp) fun σ H Q => ?_
  rintro ⟨S, Q', E', rel, q, up, ux⟩
  refine ⟨S, _, _, rel, q, fun v d H1 S1 n1 r1 p1 q1 => ?_, ux⟩
  refine ⟨S1, _, _, r1, q1, fun v2 d2 H2 S2 n2 r2 p2 q2 => ?_, ux.thn n1⟩
  obtain ⟨p, ns, ds, rfl, hw, q3⟩ := q2
  have p1' := p1.nx n2
  refine ⟨?_, spP_two (n1.trans n2) r2 p1' p2 up ux q3⟩
  cases p1
  obtain ⟨dx, fs, hi, _⟩ := r2.wor p _ hw
  exact ⟨p, dx, fs, rfl, hi⟩
/-- a == b, both instances of C -/
def pCmpOwn (C : Addr) (φ : PFn) (ta tb : PTE) : PTE := fun S Q E => ta S (fun x S1 => tb S1 (fun y S2 => insW S2 C x fun _ _ _ => insW S2 C y fun _ _ _ => by2 φ x y S2 Q E) E) E
theorem cmpOwn_w {K : PySem.W.Frag} {W : WX} (tx : Cx) (hK : tx.K = K) {σ : St} {H : Hp} {Q : VK} (h : lE tx W (pCmpOwn C φ ta tb) σ H Q) : tCmpOwn K C (spP K 2 φ) (WE W) (lE tx W ta) (lE tx W tb) σ H Q := by
  subst hK
  obtain ⟨S, Q', E', rel, q, up, ux⟩ := h
  refine ⟨S, _, _, rel, q, fun v d H1 S1 n1 r1 p1 q1 => ?_, ux⟩
  refine ⟨S1, _, _, r1, q1, fun v2 d2 H2 S2 n2 r2 p2 q2 => ?_, ux.thn n1⟩
  obtain ⟨p, ns, ds, rfl, hw, p', ns', ds', rfl, hw', q3⟩ := q2
  have p1' := p1.nx n2
  refine ⟨?_, ?_, spP_two (n1.trans n2) r2 p1' p2 up ux q3⟩
  · cases p1
    obtain ⟨dx, fs, hi, _⟩ := r2.wor p _ hw
    exact ⟨p, dx, fs, rfl, hi⟩
  · cases p2
    obtain ⟨dx, fs, hi, _⟩ := r2.wor p' _ hw'
    exact ⟨p', dx, fs, rfl, hi⟩
theorem pm_eqOwn (c : MetF X.prog X.w X.K X.mg X.base C "__eq__" 2 k φ) (hr : Room k X.A) (ha : PM X a ta) (hb : PM X b tb) : PM X (.Compare a [.Eq] [b] pos) (pCmpOwn C φ ta tb) := fun W tk => by
  obtain ⟨g, h1, h2, h3, F⟩ := c.ex
  exact weakE (pe_cmp (pc_own (op := .Eq) (E := WE W) (fun _ _ => rfl) h1 h2 F hr (fun σ => passAt tk σ) (ha W tk) (hb W tk)) (nobehind _ (by decide) (by decide))) fun σ H Q h => cmpOwn_w X rfl h
theorem pmt_eqOwn (c : MetF X.prog X.w X.K X.mg X.base C "__eq__" 2 k φ) (hr : Room k X.A) (ha : PM X a ta) (hb : PM X b tb) : PMT X (.Compare a [.Eq] [b] pos) (pTest (pCmpOwn C φ ta tb)) := fun W tk => by
  obtain ⟨g, h1, h2, h3, F⟩ := c.ex
  refine weakT (pt_cmp (pc_own (op := .Eq) (E := WE W) (fun _ _ => rfl) h1 h2 F hr (fun σ => passAt tk σ) (ha W tk) (hb W tk)) (nobehind _ (by decide) (by decide))) fun σ H Q h => ?_
  obtain ⟨S, Q', E', rel, q, up, ux⟩ := h
  refine cmpOwn_w X rfl ⟨S, _, E', rel, q, fun v d H1 S1 n1 r1 p1 q1 => ?_, ux⟩
  obtain ⟨b, rfl, q1⟩ := q1
  cases p1
  exact ⟨b, rfl, up b H1 S1 n1 r1 q1⟩
/-- x op= e, x an instance -/
def pAugOwn (C : Addr) (φ : PFn) (i : Nat) (te : PTE) : PTS := fun P S => ∃ p, S.ρ[i]? = some (.val (.adr p)) ∧ te S (fun y S1 => insW S1 C (.adr p) fun _ _ _ => by2 φ (.adr p) y S1 (fun d S2 => P.nx ⟨S2.ρ.set i (.val d), S2.W⟩) P.ex) P.ex
theorem pms_augOwn {i : Nat} {x : Str} {op : Operator} {pos' : Pos} (ic : InC X.K C) (c : MetF X.prog X.w X.K X.mg X.base C (dunderI op.info.2) 2 k φ) (hr : Room k X.A) (hN : X.N.Nodup) (hi : X.N[i]? = some x) (hl : Loc X.env.scope x) (he : PM X e te)
    (hfn : X.fn x = true ∨ X.env.scope.names.lookup x = some .local := by first | exact .inl rfl | exact .inr rfl) : PMS X (.AugAssign (.Name x pos') op e pos) (pAugOwn C φ i te) := fun W tk => by
  obtain ⟨g, h1, h2, h3, F⟩ := c.ex
  refine weakS (ps_augOwn (E := WE W) ic.self h1 h2 F hr (fun σ => passAt tk σ) hN hi hl (he W tk) hfn) fun D σ H => ?_
  rintro ⟨S, P, rel, ⟨p, hs, q⟩, up⟩
  obtain ⟨v, e1, rv⟩ := rel.slot i _ hs
  cases rv
  refine ⟨_, e1, S, _, _, rel, q, fun v2 d2 H2 S2 n2 r2 p2 q2 => ?_, up.ux⟩
  obtain ⟨p', ns, ds, e', hw, q3⟩ := q2
  cases e'
  obtain ⟨dx, fs, hi, _⟩ := r2.wor p _ hw
  refine ⟨⟨p, dx, fs, rfl, hi⟩, spP_two (σ := σ) (S := S) (Q' := fun d S2 => P.nx ⟨S2.ρ.set i (.val d), S2.W⟩) n2 r2 (.adr p) p2 (fun v d H' S' n r rp q => ?_) up.ux q3⟩
  obtain ⟨nx, r'⟩ := r.put (i := i) rp
  exact up.nx _ _ _ (n.trans nx) r' q
/-! ### a new instance -/
theorem Rel.newW {K : PySem.W.Frag} {H : Hp} {σ : St} {S : Sta} {p : Addr} {o : Own} (r : Rel K H σ S) (h : OwnAt K H p o) (n : ¬ Oa σ S p) : Rel K H σ ⟨S.ρ, updW S.W p o⟩ where
  len := r.len
  slot := r.slot
  inj := r.inj
  wor := fun b o2 e => by
    have e : (if b = p then some o else S.W b) = some o2 := e
    by_cases hb : b = p
    · subst hb; rw [if_pos rfl] at e; cases e; exact h
    · rw [if_neg hb] at e; exact r.wor b o2 e
  dis := fun j b e => by
    show (if b = p then some o else S.W b) = none
    have hb : b ≠ p := fun z => n (.inl ⟨j, z ▸ e⟩)
    rw [if_neg hb]; exact r.dis j b e
/-- a promise by data, any number of arguments -/
def spL (K : PySem.W.Frag) (φ : PFn) : Sp := fun vs H Q E => ∃ ds Wo Q' E', RepAll K H vs ds ∧ RelW K H Wo ∧ φ ds Wo Q' E' ∧
  (∀ v d H' W', NxW Wo H W' H' → RelW K H' W' → Rep K H' v d → Q' d W' → Q v H') ∧ ∀ x cls dd H' W', NxW Wo H W' H' → RelW K H' W' → XR K H' x cls dd → E' x W' → E cls dd H'
def pMakeP (C : Addr) (φ : PFn) (t : PTA) : PTE := fun S Q E => t S (fun ds S1 => ∀ p, S1.W p = none → φ (.adr p :: ds) (updW S1.W p (.ins C [] [])) (fun d W' => d = .non ∧ Q (.adr p) ⟨S1.ρ, W'⟩) fun _ _ => False) E
theorem noexc {P : Program} {w : World} {outer : List Env} {H : Hp} {s : Shared} {e : Value} {s' : Shared} (h : L2.CX P w outer H s (fun _ _ _ => False) e s') : False := by
  obtain ⟨_, _, _, _, _, _, _, _, _, _, _, _, h⟩ := h
  exact h
theorem pm_make {x : Str} {g : Addr} {n : Nat} {p pos : Pos} {e : Expr} {es : List Expr} {t : PTA} (M : Mk X.K C g) (F : FnR X.prog X.w X.K X.mg X.base (L2.CX X.prog X.w) k g (spL X.K φ))
    (hr : Room (k + 1) X.A) (hg : Gl X x) (hm : X.mg x = some (.ref C)) (ha : PMA X (e :: es) t) (hdb : (x == ("__debug__" : Str)) = false := by decide)
    (he : starEach (e :: es) X.env = (false, eval e X.env) :: starEach es X.env := by rfl) (hpl : (backTo pos (starEach es X.env)).any (·.1) = false := by rfl) : PM X (.Call (.Name x p) (e :: es) [] pos) (pMakeP C φ t) := fun W tk =>
  weakE (StX.pe_makeR (E := fun _ _ _ => False) M F hr hg hm (fun _ _ _ _ _ _ _ c => (noexc c).elim) (ha W tk) hdb he hpl) fun σ H Q => by
  rintro ⟨S, Q', E', rel, q, up, ux⟩
  refine ⟨S, _, _, rel, q, fun vs ds H1 S1 n1 r1 p1 q1 => ?_, ux⟩
  intro p dx hp hd hne
  have sm : Same H1 (upd (upd H1 dx (.own p)) p (.ins C dx [])) := fun b o eb => by
    rw [upd_ne (ne_of_none eb hp), upd_ne (ne_of_none eb hd)]; exact eb
  have wn : S1.W p = none := by
    cases z : S1.W p with
    | none => rfl
    | some o =>
      obtain ⟨u, hu, _⟩ := (r1.wor p o z).at
      rw [hp] at hu; cases hu
  have r2 := r1.same sm
  have no : ¬ Oa σ S1 p := r1.fresh hp
  have r3 : Rel X.K _ σ ⟨S1.ρ, updW S1.W p (.ins C [] [])⟩ := r2.newW ⟨dx, [], upd_same, rfl, .nil⟩ no
  have n3 : Nx σ S H σ ⟨S1.ρ, updW S1.W p (.ins C [] [])⟩ (upd (upd H1 dx (.own p)) p (.ins C dx [])) := ⟨(n1.trans (.same sm)).st, (n1.trans (.same (S := S1) sm)).kn, fun x h => by
    rcases h with h | h
    · exact n1.oa x (.inl h)
    · by_cases hx : x = p
      · subst hx; exact .inr (n1.kn x hp)
      · have h' : (if x = p then some (Own.ins C [] []) else S1.W x) ≠ none := h
        rw [if_neg hx] at h'; exact n1.oa x (.inr h')⟩
  refine ⟨.adr p :: ds, updW S1.W p (.ins C [] []), _, _, .cons (.adr p) (p1.step (A := fun _ => False) (Step.of_same sm)), r3.wor, q1 p wn, fun v d H' W' nw rw' rp q2 => ?_, fun _ _ _ _ _ _ _ _ z => z.elim⟩
  obtain ⟨rfl, q2⟩ := q2
  cases rp
  obtain ⟨nx, r⟩ := r3.after nw rw'
  exact ⟨rfl, up _ _ H' _ (n3.trans nx) r (.adr p) q2⟩
/-- isinstance(e, C), e an instance of C -/
def pIsC (C : Addr) (t : PTA) : PTE := fun S Q E => t S (fun ds S1 => ∃ p ns fs, ds = [.adr p, .adr C] ∧ S1.W p = some (.ins C ns fs) ∧ Q (.bl true) S1) E
theorem pm_isC {x : String} {p pos : Pos} {e : Expr} {es : List Expr} {t : PTA} (c : C8.InsC X.K C) (hg : Gl X x) (hm : X.mg x = none) (hv : bootBuiltins x = some (.builtin "isinstance")) (ha : PMA X (e :: es) t) (hn : (x : Str) ≠ "__name__" := by decide) (hdb : ((x : Str) == ("__debug__" : Str)) = false := by decide)
    (he : starEach (e :: es) X.env = (false, eval e X.env) :: starEach es X.env := by rfl) (hpl : (backTo pos (starEach es X.env)).any (·.1) = false := by rfl) : PM X (.Call (.Name x p) (e :: es) [] pos) (pIsC C t) := fun W tk =>
  weakE (pe_callB (C8.call_isC c) hg hm hv (ha W tk) hn hdb he hpl) fun σ H Q => by
  rintro ⟨S, Q', E', rel, q, up, ux⟩
  refine ⟨S, _, _, rel, q, fun vs ds H1 S1 n1 r1 p1 q1 => ?_, ux⟩
  obtain ⟨a, ns, fs, rfl, hw, q1⟩ := q1
  cases p1 with
  | cons h1 hr =>
  cases hr with
  | cons h2 hr =>
  cases hr
  cases h1
  cases h2
  obtain ⟨dx, gs, hi, _⟩ := r1.wor a _ hw
  exact ⟨a, dx, gs, rfl, hi, up _ _ H1 S1 n1 r1 (.bl true) q1⟩
end
end Pl
set_option Elab.async false
set_option linter.all false
set_option maxRecDepth 100000
set_option maxHeartbeats 4000000
/-! PlJ: a lambda handed to a def; only its maker's table changes -/
namespace Pl
open PySem PySem.Spec L2 LamX PyProof.Rows
section
variable {X : Cx} {pins : List (Addr × Obj)} {σ : L2.St} {H : Hp} {s : Shared}
/-- what the making of a lambda leaves -/
structure Made (H H1 : Hp) (P : Addr) (q : Str) (c' : Addr) : Prop where
  kp : ∀ b o, b ≠ P → H b = some o → H1 b = some o
  kn : ∀ b, H1 b = none → H b = none
  tb : TabS H1 P q
  co : H1 c' = some (CodeO c' q)
theorem lam_mk {c P : Addr} {params : Arguments} {body : Expr} {scope : Scope} {pos : Pos} {E Q : Value → Shared → Prop} (I : Inv X pins σ H s) (TB : TabB X.base X.mg c P) (hcode : X.env.code = .ref c) (hT : TabS H P (X.env.qual ++ "<lambda>"))
    (hdef : defaultsOf params X.env = ([], [])) (hfree : ∀ y ∈ scope.names, y.2 = .free → ∃ c, X.env.cells.lookup y.1 = some c)
    (h : ∀ (f c' : Addr) (pm ctv : Value) (H1 : Hp) (s1 : Shared), Inv X pins σ H1 s1 → Made H H1 P (X.env.qual ++ "<lambda>") c' →
      s1.heap.get? f = some (PySem.W.kla_obj "<lambda>" (X.env.qual ++ "<lambda>") params body scope (cloFrom X.env.cells scope.names []) pm c' ctv) → H1 f = none → f ∉ frs X.stack → Q (.ref f) s1) :
    wpAny (model X.prog X.w) X.A (eval (.Lambda params body scope pos) X.env) Q E s := by
  obtain ⟨ps, tabP, trip, names⟩ := hT
  have tabH : s.heap.get? P = some { cls := .none, data := .fields ps } := I.hok P _ tabP
  have out : ∀ g, s.heap.objs.size ≤ g → g ∉ frs X.stack := fun g hg z => by
    rcases List.mem_cons.mp (I.stkSub _ z) with e | e
    · exact absurd (Nat.lt_of_lt_of_le (e ▸ I.lt) hg) (Nat.lt_irrefl _)
    · exact I.nofs hg e
  apply PySem.W.kla_eval hdef
  rcases hc : codeAmong pos ps.toList with _ | cv
  · apply PySem.W.kla_makeFunction (mg := X.mg) (c := c) (P := P) (ps := ps) (closure_ok hfree) I.ok.glob (I.mod.glob.keeps I.bk) hcode (TB.code.keeps I.bk) tabH trip hc TB.gP (TB.bm.keeps I.bk)
    intro c' ctv h' tk kept ge lt rec tab'
    obtain ⟨c2, oc, vs, t, ec, hoc, hd, hv⟩ := rec
    cases ec
    have new : H c' = none := I.hok.fresh ge
    have far : s.heap.objs.size ≤ h'.objs.size := Nat.le_trans ge (Nat.le_of_lt lt)
    have J := inv_table (t' := tk) (more := #[rawInt pos.line, rawInt pos.col, .ref c']) (q := X.env.qual ++ "<lambda>")
      (h' := h'.push (PySem.W.kla_obj "<lambda>" (X.env.qual ++ "<lambda>") params body scope (cloFrom X.env.cells scope.names []) ((X.mg "__name__").getD .none) c' ctv)) I tabP
      (fun b o hb e => Heap.get?_push_of_some _ (kept b o hb e)) (Heap.get?_push_of_some _ tab') ge ⟨oc, vs, t, Heap.get?_push_of_some _ hoc, hd, hv⟩
    have pc : P ≠ c' := ne_of_none tabP new
    have apart : ∀ b, b ≠ P → b ≠ c' → upd (upd H P (.tbl (ps ++ #[rawInt pos.line, rawInt pos.col, .ref c']))) c' (CodeO c' (X.env.qual ++ "<lambda>")) b = H b := fun b n1 n2 => (upd_ne n2).trans (upd_ne n1)
    refine h h'.objs.size c' _ ctv _ _ J ⟨fun b o hb e => (apart b hb (ne_of_none e new)).trans e, fun b e => ?_, ?_, upd_same⟩ (Heap.get?_push_size _ rfl) ?_ (out _ far)
    · by_cases hb : b = c'
      · exact hb ▸ new
      · rw [upd_ne hb] at e
        by_cases hP : b = P
        · rw [hP, upd_same] at e; cases e
        · rwa [upd_ne hP] at e
    · refine ⟨_, (upd_ne pc).trans upd_same, ?_, fun p' cv hcv => ?_⟩
      · rw [Array.toList_append]; exact PySem.TriplesOk_snoc _ _ _ _ trip
      · rw [Array.toList_append] at hcv
        rcases among_app _ trip hcv with z | z
        · obtain ⟨c0, e1, e2⟩ := names p' cv z
          exact ⟨c0, e1, (apart c0 (fun e => by rw [e, tabP] at e2; exact codeO_ne ps (Option.some.inj e2).symm) (ne_of_none e2 new)).trans e2⟩
        · exact ⟨c', z, upd_same⟩
    · rw [apart _ (Nat.ne_of_gt (Nat.lt_of_lt_of_le (Heap.lt_size tabH) far)) (Nat.ne_of_gt lt)]
      exact I.hok.fresh far
  · obtain ⟨c', rfl, hco⟩ := names pos cv hc
    apply PySem.W.kla_makeFunctionHit (mg := X.mg) (c := c) (P := P) (ps := ps) (closure_ok hfree) I.ok.glob (I.mod.glob.keeps I.bk) hcode (TB.code.keeps I.bk) tabH trip hc (TB.bm.keeps I.bk)
    intro ctv h' tk kept far
    exact h h'.objs.size c' _ ctv H _ (I.kept fun b o e => Heap.get?_push_of_some _ (kept b o e)) ⟨fun _ _ _ e => e, fun _ e => e, ⟨ps, tabP, trip, names⟩, hco⟩ (Heap.get?_push_size _ rfl) (I.hok.fresh far) (out _ far)
end
end Pl
set_option Elab.async false
set_option linter.all false
set_option maxRecDepth 100000
set_option maxHeartbeats 4000000
/-! PlJ2: a def that calls what it got, and tells by a word how that ended -/
namespace Pl
open PySem PySem.Spec L2 LamX PyProof.Rows
theorem takes_len {X : Cx} {W : WX} (t : Takes X W) : Takes X fun cls d σ H => σ.length = X.N.length → W cls d σ H := by
  rintro u s' ⟨a, B, sI, pins, σ, H, cls, d, e, I, nb, up, sky, na, os, ag, w⟩
  exact t u s' ⟨a, B, sI, pins, σ, H, cls, d, e, I, nb, up, sky, na, os, ag, w I.len⟩
/-- which word an exception's class has -/
def wordE (K : PySem.W.Frag) (Q : VK) : List (Addr × Str) → XK
  | [] => fun _ _ _ => False
  | (C, z) :: r => fun cls d H => ∃ b, PySem.W.exmOne K cls (.ref C) = some b ∧ (b = true → Q (.str z) H) ∧ (b = false → wordE K Q r cls d H)
/-- the suites: word = z -/
def wordTs (ws : List (Addr × Str)) : List (Value × (Addr → Value → Option Addr → TS)) := ws.map fun p => (.ref p.1, fun _ _ _ => tAsg (tC (.str p.2)) (gName 1))
theorem wordE_many {K : PySem.W.Frag} {Q : VK} {D : Ends} (hD : ∀ (σ : L2.St) (H : Hp) (z : Str), 1 < σ.length → Q (.str z) H → D.nx (σ.set 1 (some (.str z))) H) {cls : Value} {d : Option Addr} {σ : L2.St} {H : Hp} (hl : 1 < σ.length) :
    ∀ ws : List (Addr × Str), wordE K Q ws cls d H → wMany K (fun _ _ _ _ => False) D (wordTs ws) cls d σ H
  | [], h => h
  | (C, z) :: r, ⟨b, h1, h2, h3⟩ => ⟨b, h1, fun hb _ _ => hD σ H z hl (h2 hb), fun hb => wordE_many hD hl r (h3 hb)⟩
def TTword (K : PySem.W.Frag) (ws : List (Addr × Str)) : (XK → Hp → VK → Prop) → Hp → VK → Prop := fun tl H Q => tl (wordE K Q ws) H fun _ H2 => Q (.str "none") H2
theorem word_gives {X : Cx} {x q : Str} {sg : Scope} {g : Addr} {cdg : Value} {hd₀ : ExceptHandler} {hds : List ExceptHandler} {ws : List (Addr × Str)} {p0 p1 p2 p3 p4 p5 p6 p7 pa : Pos} {j : Nat} (hw : sg.names.lookup ("word" : Str) = some .local)
    (hh : ∀ (s : Shared) (H : Hp), HdsOk (cxOf C8.CX0 X.prog X.w X.K X.mg X.base ["call", "word"] x sg g cdg X.A X.stack s H C8.E0).nox (hd₀ :: hds) (wordTs ws)) :
    GivesTo X ["call", "word"] x sg g cdg [.Assign [.Name "word" pa] (.Constant (.str "none") j p0) p1, .Try [.Expr (.Call (.Name "call" p2) [] [] p3) p4] (hd₀ :: hds) [] [] p5, .Return (some (.Name "word" p6)) p7] "call" q (TTword X.K ws) := by
  intro f c' s H Q tl act hc h
  have nd : (["call", "word"] : List Str).Nodup := by decide +kernel
  refine ⟨_, pss_cons (ps_set (i := 1) nd rfl (.inl hw) pe_str (hf := .inr hw)) (pss_cons
    (ps_try_many (Wout := fun _ _ _ _ => False) (tb := fun W D σ H => ∃ Ech : XK, (∀ cls d (σ' : L2.St) H', Ech cls d H' → σ'.length = 2 → W cls d σ' H') ∧ σ[0]? = some (some (.ref f)) ∧ H c' = some (CodeO c' q) ∧ tl Ech H fun _ H2 => D.nx σ H2)
      rfl rfl L2.takes0 (fun W pn xe tk _ => ⟨fun pins s1 σ H1 D I h1 => ?_⟩) (hh s H)) (pss_one (ps_ret (pe_var (i := 1) rfl (.inl hw))))), ?_⟩
  · obtain ⟨Ech, hW, a1, a2, a3⟩ := h1
    exact (pss_one (ps_expr (act _ pn xe Ech p2 p3 (takes_len tk) fun cls d σ' H' e hl => hW cls d σ' H' e hl))).run pins s1 σ H1 D I ⟨a1, a2, a3⟩
  · refine ⟨wordE X.K Q ws, fun cls d σ' H' e hl => wordE_many (D := { nx := tRet (tVar 1) { nx := fun _ H' => Q V.non H', rt := Q }, rt := Q }) (fun σ H z hl q => ⟨_, List.getElem?_set_self hl, q⟩) (by omega) ws e, rfl, hc, ?_⟩
    have e : (fun (_ : V) H2 => tRet (tVar 1) { nx := fun _ H' => Q V.non H', rt := Q } (List.set (L2.start ["call", "word"] [V.ref f]) 1 (some (V.str "none"))) H2) = fun _ H2 => Q (.str "none") H2 := by
      funext _ H2
      refine propext ⟨fun z => ?_, fun z => ⟨_, rfl, z⟩⟩
      obtain ⟨v, e1, z⟩ := z
      cases e1
      exact z
    exact e ▸ h
end Pl
set_option Elab.async false
set_option linter.all false
set_option maxRecDepth 100000
set_option maxHeartbeats 4000000
/-! PlJ3: x(lambda: e), over data -/
namespace Pl
open PySem PySem.Spec L2 LamX PyProof.Rows
section
variable {X : Cx}
def tLamX (P : Addr) (q : Str) (TT : (XK → Hp → VK → Prop) → Hp → VK → Prop) (t : XK → TE) : TE := fun σ H Q => TabS H P q ∧ ∀ H1 c', Made H H1 P q c' → TT (fun E H' Q' => t E σ H' Q') H1 Q
/-- what the top says of a def that gets a lambda -/
structure Gets (X : Cx) (x a : Str) (Ng : List Str) (TT : (XK → Hp → VK → Prop) → Hp → VK → Prop) : Prop where
  ex : ∃ (g : Addr) (pg : Arguments) (bg : List Stmt) (sg : Scope) (dV kV doc pm cdv ct oc : Value) (an od : Option Addr) (osl : Array (Option Value)), X.mg x = some (.ref g) ∧ PySem.W.keepIn X.K (.ref g) = true ∧
    X.K.lookup g = some ⟨oc, od, .func (PySem.W.fnOf x x pg bg sg dV kV doc pm an cdv ct), osl⟩ ∧ PySem.W.codeIn X.K cdv x = true ∧ L2.Binds X.K (PySem.W.fnOf x x pg bg sg dV kV doc pm an cdv ct) [a] [] ∧ FnScope Ng [a] sg ∧ Ng[0]? = some a ∧ Vis sg a ∧
    GivesTo X Ng x sg g cdv bg a (X.env.qual ++ "<lambda>") TT
theorem pe_lamX {TT : (XK → Hp → VK → Prop) → Hp → VK → Prop} {x a : Str} {Ng : List Str} {c P : Addr} {k : Nat} {params : Arguments} {body : Expr} {scope : Scope} {t : XK → TE} {p lpos pos : Pos} (G : Gets X x a Ng TT) (hg : Gl X x) (TB : TabB X.base X.mg c P) (hcode : X.env.code = .ref c)
    (hr : Room (k + 2) X.A) (L : LamS X.env.scope scope) (hdef : defaultsOf params X.env = ([], []))
    (hbind : ∀ (q : Str) (cl : List (Str × Addr)) (pm cv ctv : Value), bindArgs (PySem.W.kla_fn "<lambda>" q params body scope cl pm cv ctv) ⟨[], []⟩ = pure [])
    (hbody : ∀ (A : Around) (outer : List Env) (s : Shared) (H : Hp) (E : XK) (f c' : Addr), Room k (A.deeper (lamEnv X scope s.heap.objs.size f c')) → PE (lamCx X A outer s H E scope f c') body (t E))
    (hdb : (x == ("__debug__" : Str)) = false := by decide) (hd : (a == ("__debug__" : Str)) = false := by decide) (hcd : (a == ("__classdict__" : Str)) = false := by decide) :
    PE X (.Call (.Name x p) [.Lambda params body scope lpos] [] pos) (tLamX P (X.env.qual ++ "<lambda>") TT t) := by
  obtain ⟨g, pg, bg, sg, dV, kV, doc, pm, cdv, ct, oc, an, od, osl, hm, hk, lk, hcg, hb, Sg, hN, hv, hG⟩ := G.ex
  refine ⟨fun pins s σ H Q I ⟨hT, h⟩ => wpAny_Call_Name_kw (ld_glob I hg hm (PySem.W.callWith_K (h₀ := X.base) I.ok.mod.kin hk ?_ (by rfl) (by rfl)) hdb)⟩
  show wpAny _ _ (spliced ((false, eval (.Lambda params body scope lpos) X.env) :: backTo pos (starEach [] X.env))) _ _ s
  refine Calls.spliced_cons (lam_mk I TB hcode hT hdef (L.has I.ok) fun f c' pm' ctv H1 s1 I1 M hf hfn hfr => Calls.spliced_nil ⟨I1.kIn, ?_⟩)
  have run : codeAny (model X.prog X.w) X.A (.call (.ref g) ⟨[.ref f], []⟩) (CR C8.CX0 X.stack X.prog X.w H1 s1 Q C8.E0) s1 := by
    refine run_ofS (N := Ng) (ps := [a]) (us := [.ref f]) (vs := [.ref f]) lk hcg Sg hr I1.env0 (hb s1 [.ref f] I1.kIn rfl) (.cons rfl .nil) rfl fun hr1 => ?_
    obtain ⟨u, hu, hq⟩ := hG f c' s1 H1 Q (fun E H' Q' => t E σ H' Q') (fun W pn xe E p1 p2 tk hW => pe_act (i := 0) I1 L hf hfn hfr (hbind _ _ _ _ _) tk hW hr1 (fun A outer s H hr2 => hbody A outer s H E f c' hr2) hN hv hd hcd) M.co (h H1 c' M)
    exact ⟨u, hu.nox, hq⟩
  refine wpAny_call (codeAny_mono run fun r s2 hq => ?_)
  match r, hq with
  | .error e, hq => exact (show False from hq).elim
  | .ok (.ret u), hq => exact I1.after hq
  | .ok .next, hq => exact hq.elim
  | .ok .brk, hq => exact hq.elim
  | .ok .cont, hq => exact hq.elim
end
/-- the word that an exception gets -/
def wordX (K : PySem.W.Frag) (x : Exn) (Q : D → Prop) : List (Addr × Str) → Prop
  | [] => False
  | (C, z) :: r => ∃ b, PySem.W.exmOne K x.cls (.ref C) = some b ∧ (b = true → Q (.str z)) ∧ (b = false → wordX K x Q r)
theorem wordX_E {K : PySem.W.Frag} {x : Exn} {d : Option Addr} {H : Hp} {Q : VK} {Q' : D → Prop} (hq : ∀ z, Q' (.str z) → Q (.str z) H) : ∀ ws : List (Addr × Str), wordX K x Q' ws → wordE K Q ws x.cls d H
  | [], h => h
  | (C, z) :: r, ⟨b, h1, h2, h3⟩ => ⟨b, h1, fun hb => hq z (h2 hb), fun hb => wordX_E hq r (h3 hb)⟩
def pWord (K : PySem.W.Frag) (P : Addr) (q : Str) (ws : List (Addr × Str)) (tb : PTE) : PTE := fun S Q E => S.W P = some (.tbl q) ∧ tb S (fun _ S1 => Q (.str "none") S1) fun x S1 => wordX K x (fun d => Q d S1) ws
theorem Made.rel {K : PySem.W.Frag} {σ : L2.St} {S : Sta} {H H1 : Hp} {P c' : Addr} {q : Str} (M : Made H H1 P q c') (r : Rel K H σ S) (hP : S.W P = some (.tbl q)) : Nx σ S H σ S H1 ∧ Rel K H1 σ S := by
  have st : Step (fun b => b = P) H H1 := fun b o e n => M.kp b o (fun z => by
    subst z
    obtain ⟨ps, h, _⟩ := r.wor b _ hP
    rw [e] at h; cases h
    rcases n with n | n
    · exact n
    · exact n rfl) e
  have oP : Oa σ S P := .inr (by rw [hP]; exact fun z => nomatch z)
  refine ⟨⟨st.mono fun b e => e ▸ oP, M.kn, fun b h => .inl h⟩, r.len, fun i s' e => ?_, r.inj, fun b o e => ?_, r.dis⟩
  · have z := r.slot i s' e
    match s', z with
    | .emp, _ => trivial
    | .val d, ⟨v, h1, h2⟩ => exact ⟨v, h1, h2.step st⟩
    | .own o, ⟨b, h1, h2⟩ =>
      refine ⟨b, h1, h2.step st fun hb => ?_⟩
      subst hb
      have := r.dis i b ⟨⟨o, e⟩, h1⟩
      rw [hP] at this; cases this
  · by_cases hb : b = P
    · subst hb
      rw [hP] at e; cases e
      exact M.tb
    · exact (r.wor b o e).step st hb
section
variable {X : Cx}
theorem pm_word {x a : Str} {Ng : List Str} {c P : Addr} {k : Nat} {params : Arguments} {body : Expr} {scope : Scope} {tb : PTE} {ws : List (Addr × Str)} {q : Str} {p lpos pos : Pos} (G : Gets X x a Ng (TTword X.K ws)) (hg : Gl X x) (TB : TabB X.base X.mg c P) (hcode : X.env.code = .ref c)
    (hr : Room (k + 2) X.A) (hq : X.env.qual ++ "<lambda>" = q) (L : LamS X.env.scope scope) (hdef : defaultsOf params X.env = ([], []))
    (hbind : ∀ (q : Str) (cl : List (Str × Addr)) (pm cv ctv : Value), bindArgs (PySem.W.kla_fn "<lambda>" q params body scope cl pm cv ctv) ⟨[], []⟩ = pure [])
    (hbody : ∀ (A : Around) (outer : List Env) (s : Shared) (H : Hp) (E : XK) (f c' : Addr), Room k (A.deeper (lamEnv X scope s.heap.objs.size f c')) → PM (lamCx X A outer s H E scope f c') body tb)
    (hdb : (x == ("__debug__" : Str)) = false := by decide) (hd : (a == ("__debug__" : Str)) = false := by decide) (hcd : (a == ("__classdict__" : Str)) = false := by decide) :
    PM X (.Call (.Name x p) [.Lambda params body scope lpos] [] pos) (pWord X.K P q ws tb) := fun W tk => by
  subst hq
  refine weakE (pe_lamX (t := fun E => fun σ H Q => ∃ S Q' E', Rel X.K H σ S ∧ tb S Q' E' ∧ Up X.K σ S H Q Q' ∧ UpX X.K σ S H (fun cls d _ H => E cls d H) E') G hg TB hcode hr L hdef hbind
    (fun A outer s H E f c' hr => hbody A outer s H E f c' hr _ (takes_of rfl rfl rfl rfl)) hdb hd hcd) fun σ H Q => ?_
  rintro ⟨S, Q', E', rel, ⟨hP, q1⟩, up, ux⟩
  refine ⟨rel.wor P _ hP, fun H1 c' M => ?_⟩
  obtain ⟨n1, r1⟩ := M.rel rel hP
  refine ⟨S, _, _, r1, q1, fun v d H' S' n r p q2 => up _ _ H' S' (n1.trans n) r (.str _) q2, fun y cls dd H' S' n r xr q2 => ?_⟩
  have ex : y.cls = cls := xr.1
  subst ex
  exact wordX_E (fun z q3 => up _ _ H' S' (n1.trans n) r (.str z) q3) ws q2
end
end Pl
set_option Elab.async false
set_option linter.all false
set_option maxRecDepth 100000
set_option maxHeartbeats 4000000
/-! PlI3: an __init__ with a star; properties -/
namespace Pl
open PySem PySem.Spec L2 PyProof.Rows
/-- what is bound to a, b, c, d, *r -/
def φStar (φ : PFn) : PFn := fun ds W Q E => ∃ a b c d r, ds = a :: b :: c :: d :: r ∧ r.length ≤ 1000 ∧ φ [a, b, c, d, .tup r] W Q E
section
variable {P : Program} {w : World} {K : PySem.W.Frag} {mg : Str → Option Value} {base : Heap}
theorem star4 {qual : Str} {k : Nat} {f : Addr} {name : Str} {params : Arguments} {body : List Stmt} {scope : Scope} {dV kV doc pm cdv ct oc : Value} {an od : Option Addr} {osl : Array (Option Value)} {N : List Str} {p1 p2 p3 p4 pv : Str} {φ : PFn}
    (lk : K.lookup f = some ⟨oc, od, .func (PySem.W.fnOf name qual params body scope dV kV doc pm an cdv ct), osl⟩) (hcd : PySem.W.codeIn K cdv qual = true) (S : FnScope N ([p1, p2, p3, p4] ++ [pv]) scope)
    (hb : ∀ us rest : List Value, us.length = [p1, p2, p3, p4].length → bindArgs (PySem.W.fnOf name qual params body scope dV kV doc pm an cdv ct) ⟨us ++ rest, []⟩ = (newTuple rest >>= fun t => pure ([p1, p2, p3, p4].zip us ++ [(pv, t)])))
    (hbody : ∀ (A : Around) (outer : List Env) (s : Shared) (H : Hp) (E : XK), Room k (A.deeper (envOfC qual scope s.heap.objs.size f cdv)) →
      ∃ t, PMSs (cxOf (L2.CX P w) P w K mg base N qual scope f cdv A outer s H E) body t ∧
        ∀ ds Wo Q E', ds.length = 5 → φ ds Wo Q E' → t { nx := fun S => Q .non S.W, rt := fun d S => Q d S.W, ex := fun x S => E' x S.W } ⟨start0 N.length ds, Wo⟩) :
    FnR P w K mg base (L2.CX P w) (k + 1) f (spL K (φStar φ)) := by
  refine (StX.fn_star (sp := spP K 5 φ) lk hcd S (StX.cxUp (P := P) (w := w)) hb fun A outer s H vs Q E hr h => ?_).imp fun vs H Q E h => ?_
  · obtain ⟨ds, Wo, Q', E', hl, rep, rw_, hφ, up, ux⟩ := h
    obtain ⟨t, ht, hq⟩ := hbody A outer s H E hr
    have q := hq ds Wo Q' E' (by rw [← rep.length]; exact hl) hφ
    obtain ⟨rel, oa⟩ := start_rel (N := N) rep rw_
    have nxw : ∀ {σ' H' S'}, Nx (L2.start N vs) ⟨start0 N.length ds, Wo⟩ H σ' S' H' → NxW Wo H S'.W H' := fun {σ' H' S'} n =>
      ⟨fun b o e q => n.st b o e (q.imp id fun z y => z (oa b y)), n.kn, fun a h => (n.oa a (.inr h)).imp (oa a) id⟩
    refine ⟨_, ht (fun cls d _ H => E cls d H) (takes_of rfl rfl rfl rfl), ⟨⟨start0 N.length ds, Wo⟩, _, rel, q, ⟨fun σ' H' S' n r q1 => up .non .non H' S'.W (nxw n) r.wor .non q1, fun v d σ' H' S' n r p q1 => up v d H' S'.W (nxw n) r.wor p q1, fun _ _ _ _ _ z => z.elim, fun _ _ _ _ _ z => z.elim,
      fun x c d σ' H' S' n r p q1 => ux x c d H' S'.W (nxw n) r.wor p q1⟩⟩⟩
  · obtain ⟨ds, Wo, Q', E', rep, rw_, ⟨a, b, c, d, r, rfl, hr, hφ⟩, up, ux⟩ := h
    match vs, rep with
    | v1 :: v2 :: v3 :: v4 :: vr, .cons h1 (.cons h2 (.cons h3 (.cons h4 h5))) =>
      refine ⟨[v1, v2, v3, v4], vr, rfl, rfl, Nat.le_trans (Nat.le_of_eq h5.length) (Nat.le_trans hr (by decide)), fun p hp => ?_⟩
      have sm : Same H (upd H p (.tup vr)) := same_new hp
      have st : Step (fun _ => False) H (upd H p (.tup vr)) := Step.of_same sm
      refine ⟨[a, b, c, d, .tup r], Wo, Q', E', rfl, .cons (h1.step st) (.cons (h2.step st) (.cons (h3.step st) (.cons (h4.step st) (.cons (.tup (.inl (.inl upd_same)) (h5.step st)) .nil)))), fun a o e => (rw_ a o e).step st (fun z => z), hφ,
        fun v d H' W' n rw' rp q => up v d H' W' ⟨fun b o e z => n.st b o (sm b o e) z, fun b e => same_kn sm b (n.kn b e), fun a h => (n.oa a h).imp id fun z => same_kn sm a z⟩ rw' rp q,
        fun x cls dd H' W' n rw' xr q => ux x cls dd H' W' ⟨fun b o e z => n.st b o (sm b o e) z, fun b e => same_kn sm b (n.kn b e), fun a h => (n.oa a h).imp id fun z => same_kn sm a z⟩ rw' xr q⟩
end
section
variable {X : Cx} {C p g : Addr} {f : Str} {k : Nat} {φ : PFn} {e : Expr} {ta : PTE} {pos : Pos}
/-- e.f, a property -/
def pProp (C : Addr) (φ : PFn) (ta : PTE) : PTE := fun S Q E => ta S (fun x S1 => insW S1 C x fun _ _ _ => φ [x] S1.W (fun d W' => Q d ⟨S1.ρ, W'⟩) fun _ _ => False) E
theorem pm_prop (c : Cls X.K C) (hp : PropOf X.K C f p g) (F : FnR X.prog X.w X.K X.mg X.base (L2.CX X.prog X.w) k g (spP X.K 1 φ)) (hr : Room (k + 1) X.A) (ha : PM X e ta) (hab : attributeBase e f X.env (eval e X.env) = eval e X.env := by rfl) : PM X (.Attribute e f pos) (pProp C φ ta) := fun W tk => by
  have key : PE X (.Attribute e f pos) (fun σ H Q => lE X W ta σ H fun x H1 => InsV H1 C x ∧ spP X.K 1 φ [x] H1 Q fun _ _ _ => False) := by
    refine ⟨fun pins s σ H Q I h => ?_⟩
    refine attr_of hab (thn ((ha W tk).run pins s σ H _ I h) fun u s1 ⟨x, H1, I1, rx, ⟨a, dx, fs, ex, ea⟩, q⟩ => ?_)
    subst ex
    obtain rfl : u = Value.ref a := rx
    obtain ⟨mA, O, _⟩ := ins_get I1.hok ea
    obtain ⟨od, J, _⟩ := O.look
    obtain ⟨rest, hrec⟩ := hp.rec_
    have hcls : (PySem.W.clsIn X.K C).isSome = true := by
      obtain ⟨cd, hc, _⟩ := PySem.W.any_some c.hd
      rw [hc]; rfl
    have I2 := I1.tok (s1.toks + 1)
    refine PySem.W.get_bind I1.kIn J (PySem.W.plainGet_of (c.get f)).1 (PySem.W.findObj_data hcls hp.at_ hp.get hp.tak) (PySem.W.plainGet_of (c.get f)).2 (wpAny_call (PySem.W.prop_get (s := { s1 with toks := s1.toks + 1 }) I1.kIn hrec ?_))
    refine codeAny_mono (F X.A.in1 X.stack _ H1 [.ref a] [.ref a] Q _ hr.in1 I2.env0.in1 (.cons rfl .nil) q) fun r s2 hq => ?_
    match r, hq with
    | .error er, hq => exact (noexc hq).elim
    | .ok (.ret u), hq =>
      obtain ⟨v, H', I3, rv, q3⟩ := I2.after hq
      show wpAny _ _ (handedOut u) _ _ _
      rw [PySem.W.handedOut_of (handed_of rv)]
      exact wpAny_pure ⟨v, H', I3, rv, q3⟩
    | .ok .next, hq => exact hq.elim
    | .ok .brk, hq => exact hq.elim
    | .ok .cont, hq => exact hq.elim
  refine weakE key fun σ H Q => ?_
  rintro ⟨S, Q', E', rel, q, up, ux⟩
  refine ⟨S, _, _, rel, q, fun v d H1 S1 n1 r1 p1 q1 => ?_, ux⟩
  obtain ⟨a, ns, ds, rfl, hw, q1⟩ := q1
  refine ⟨?_, [.adr a], S1.W, _, _, rfl, .cons p1 .nil, r1.wor, q1, fun v d H' W' nw rw' rp q2 => ?_, fun _ _ _ _ _ _ _ _ z => z.elim⟩
  · cases p1
    obtain ⟨dx, fs, hi, _⟩ := r1.wor a _ hw
    exact ⟨a, dx, fs, rfl, hi⟩
  · obtain ⟨nx, r⟩ := r1.after nw rw'
    exact up v d H' _ (n1.trans nx) r rp q2
end
end Pl
set_option Elab.async false
set_option linter.all false
set_option maxRecDepth 100000
set_option maxHeartbeats 4000000
/-! PlI4: defs whose code object is known, methods, the def that tells by a word -/
namespace Pl
open PySem PySem.Spec L2 LamX PyProof.Rows
/-- a def of the text, its code object at c -/
structure FunC (K : PySem.W.Frag) (x qual : Str) (st : Stmt) (f : Addr) (fd : FuncData) (c : Addr) : Prop where
  ex : ∃ (oc : Value) (od : Option Addr) (kV doc pm : Value) (an : Option Addr) (ct : Value) (osl : Array (Option Value)),
    fd = PySem.W.fnOf x qual (defArgs st) (defBody st) (defScope st) .none kV doc pm an (.ref c) ct ∧ K.lookup f = some ⟨oc, od, .func fd, osl⟩ ∧ PySem.W.codeIn K (.ref c) qual = true
  kp : PySem.W.keepIn K (.ref f) = true
structure TopC (K : PySem.W.Frag) (mg : Str → Option Value) (x : Str) (ps : List Str) (st : Stmt) (c : Addr) : Prop where
  ex : ∃ f fd, FunC K x x st f fd c ∧ mg x = some (.ref f) ∧ L2.Binds K fd ps []
section
variable {P : Program} {w : World} {K : PySem.W.Frag} {mg : Str → Option Value} {base : Heap}
theorem ok_ofC {x qual : Str} {st : Stmt} {f c : Addr} {fd : FuncData} {N ps : List Str} {k : Nat} {φ : PFn} (F : FunC K x qual st f fd c) (S : FnScope N ps (defScope st))
    (hbody : ∀ (A : Around) (outer : List Env) (s : Shared) (H : Hp) (E : XK), Room k (A.deeper (envOfC qual (defScope st) s.heap.objs.size f (.ref c))) →
      ∃ t, PMSs (cxOf (L2.CX P w) P w K mg base N qual (defScope st) f (.ref c) A outer s H E) (defBody st) t ∧
        ∀ ds Wo Q E', ds.length = ps.length → φ ds Wo Q E' → t { nx := fun S => Q .non S.W, rt := fun d S => Q d S.W, ex := fun x S => E' x S.W } ⟨start0 N.length ds, Wo⟩) :
    FnOk P w K mg base (L2.CX P w) (k + 1) f fd ps (spP K ps.length φ) := by
  obtain ⟨oc, od, kV, doc, pm, an, ct, osl, rfl, lk, hcd⟩ := F.ex
  refine fn_of lk hcd S (fun vs H Q E h => ?_) fun A outer s H vs Q E hr h => ?_
  · obtain ⟨_, _, _, _, h, _⟩ := h; exact h
  obtain ⟨ds, Wo, Q', E', hl, rep, rw_, hφ, up, ux⟩ := h
  obtain ⟨t, ht, hq⟩ := hbody A outer s H E hr
  have q := hq ds Wo Q' E' (by rw [← rep.length]; exact hl) hφ
  obtain ⟨rel, oa⟩ := start_rel (N := N) rep rw_
  have nxw : ∀ {σ' H' S'}, Nx (L2.start N vs) ⟨start0 N.length ds, Wo⟩ H σ' S' H' → NxW Wo H S'.W H' := fun {σ' H' S'} n =>
    ⟨fun b o e q => n.st b o e (q.imp id fun z y => z (oa b y)), n.kn, fun a h => (n.oa a (.inr h)).imp (oa a) id⟩
  exact ⟨_, ht (fun cls d _ H => E cls d H) (takes_of rfl rfl rfl rfl), ⟨⟨start0 N.length ds, Wo⟩, _, rel, q, ⟨fun σ' H' S' n r q1 => up .non .non H' S'.W (nxw n) r.wor .non q1, fun v d σ' H' S' n r p q1 => up v d H' S'.W (nxw n) r.wor p q1, fun _ _ _ _ _ z => z.elim, fun _ _ _ _ _ z => z.elim,
    fun x c d σ' H' S' n r p q1 => ux x c d H' S'.W (nxw n) r.wor p q1⟩⟩⟩
theorem call_ofC {x : Str} {st : Stmt} {N ps : List Str} {k : Nat} {c : Addr} {φ : PFn} (T : TopC K mg x ps st c) (S : FnScope N ps (defScope st))
    (hbody : ∀ (f : Addr) (A : Around) (outer : List Env) (s : Shared) (H : Hp) (E : XK), Room k (A.deeper (envOfC x (defScope st) s.heap.objs.size f (.ref c))) →
      ∃ t, PMSs (cxOf (L2.CX P w) P w K mg base N x (defScope st) f (.ref c) A outer s H E) (defBody st) t ∧
        ∀ ds Wo Q E', ds.length = ps.length → φ ds Wo Q E' → t { nx := fun S => Q .non S.W, rt := fun d S => Q d S.W, ex := fun x S => E' x S.W } ⟨start0 N.length ds, Wo⟩) :
    CallF P w K mg base x ps.length (k + 1) φ := by
  obtain ⟨f, fd, F, hm, hb⟩ := T.ex
  exact ⟨f, fd, ps, ok_ofC F S (hbody f), hm, F.kp, hb⟩
/-- a def's promise by positional values -/
theorem fnr_of {k n : Nat} {f : Addr} {fd : FuncData} {ps : List Str} {φ : PFn} (F : FnOk P w K mg base (L2.CX P w) k f fd ps (spP K n φ)) (hb : L2.Binds K fd ps []) : FnR P w K mg base (L2.CX P w) k f (spP K n φ) :=
  (F.raw hb .nil).imp fun vs H Q E h => by rw [List.append_nil]; exact h
/-- an __init__ that takes four values and more -/
theorem init_of {x qual : Str} {st : Stmt} {f : Addr} {fd : FuncData} {N : List Str} {p1 p2 p3 p4 pv : Str} {k : Nat} {φ : PFn} (F : Fun K x qual st f fd) (S : FnScope N ([p1, p2, p3, p4] ++ [pv]) (defScope st))
    (hb : ∀ (kV doc pm : Value) (an : Option Addr) (cdv ct : Value) (us rest : List Value), us.length = [p1, p2, p3, p4].length → bindArgs (PySem.W.fnOf x qual (defArgs st) (defBody st) (defScope st) .none kV doc pm an cdv ct) ⟨us ++ rest, []⟩ = (newTuple rest >>= fun t => pure ([p1, p2, p3, p4].zip us ++ [(pv, t)])))
    (hbody : ∀ (cdv : Value) (A : Around) (outer : List Env) (s : Shared) (H : Hp) (E : XK), Room k (A.deeper (envOfC qual (defScope st) s.heap.objs.size f cdv)) →
      ∃ t, PMSs (cxOf (L2.CX P w) P w K mg base N qual (defScope st) f cdv A outer s H E) (defBody st) t ∧
        ∀ ds Wo Q E', ds.length = 5 → φ ds Wo Q E' → t { nx := fun S => Q .non S.W, rt := fun d S => Q d S.W, ex := fun x S => E' x S.W } ⟨start0 N.length ds, Wo⟩) :
    FnR P w K mg base (L2.CX P w) (k + 1) f (spL K (φStar φ)) := by
  obtain ⟨oc, od, kV, doc, pm, an, cdv, ct, osl, rfl, lk, hcd⟩ := F.ex
  exact star4 lk hcd S (hb kV doc pm an cdv ct) fun A outer s H E hr => hbody cdv A outer s H E hr
/-- a class whose instances are made by a promise -/
structure MkF (P : Program) (w : World) (K : PySem.W.Frag) (mg : Str → Option Value) (base : Heap) (x : Str) (C : Addr) (k : Nat) (φ : PFn) : Prop where
  ex : ∃ g, Mk K C g ∧ mg x = some (.ref C) ∧ FnR P w K mg base (L2.CX P w) k g (spL K φ)
theorem MkF.up {x : Str} {C : Addr} {k j : Nat} {φ : PFn} (c : MkF P w K mg base x C k φ) (h : k ≤ j) : MkF P w K mg base x C j φ := by
  obtain ⟨g, a, b, F⟩ := c.ex
  exact ⟨g, a, b, F.mono h⟩
/-- a property and its promise -/
structure PropF (P : Program) (w : World) (K : PySem.W.Frag) (mg : Str → Option Value) (base : Heap) (C : Addr) (f : Str) (k : Nat) (φ : PFn) : Prop where
  ex : ∃ p g, PropOf K C f p g ∧ FnR P w K mg base (L2.CX P w) k g (spP K 1 φ)
theorem PropF.up {f : Str} {C : Addr} {k j : Nat} {φ : PFn} (c : PropF P w K mg base C f k φ) (h : k ≤ j) : PropF P w K mg base C f j φ := by
  obtain ⟨p, g, a, F⟩ := c.ex
  exact ⟨p, g, a, F.mono h⟩
end
section
variable {X : Cx} {C : Addr} {f x : Str} {k : Nat} {φ : PFn} {e : Expr} {es : List Expr} {ta : PTE} {t : PTA} {pos p : Pos}
theorem pm_mkF (c : MkF X.prog X.w X.K X.mg X.base x C k φ) (hr : Room (k + 1) X.A) (hg : Gl X x) (ha : PMA X (e :: es) t) (hdb : (x == ("__debug__" : Str)) = false := by decide)
    (he : starEach (e :: es) X.env = (false, eval e X.env) :: starEach es X.env := by rfl) (hpl : (backTo pos (starEach es X.env)).any (·.1) = false := by rfl) : PM X (.Call (.Name x p) (e :: es) [] pos) (pMakeP C φ t) := by
  obtain ⟨g, M, hm, F⟩ := c.ex
  exact pm_make (n := 0) M F hr hg hm ha hdb he hpl
theorem pm_propF (c : Cls X.K C) (h : PropF X.prog X.w X.K X.mg X.base C f k φ) (hr : Room (k + 1) X.A) (ha : PM X e ta) (hab : attributeBase e f X.env (eval e X.env) = eval e X.env := by rfl) : PM X (.Attribute e f pos) (pProp C φ ta) := by
  obtain ⟨p, g, hp, F⟩ := h.ex
  exact pm_prop c hp F hr ha hab
end
/-- a, b, c = x, y, z -/
def kPar3 (i j l : Nat) (P : PEnds) : List D → Sta → Prop := fun ds S1 => ∃ x y z, ds = [x, y, z] ∧ P.nx ⟨((S1.ρ.set i (.val x)).set j (.val y)).set l (.val z), S1.W⟩
def pPar3 (i j l : Nat) (t : PTA) : PTS := fun P S => t S (kPar3 i j l P) P.ex
theorem pPar3_eq (i j l : Nat) (t : PTA) (P : PEnds) (S : Sta) : pPar3 i j l t P S = t S (kPar3 i j l P) P.ex := rfl
theorem kPar3_mk (i j l : Nat) (P : PEnds) (x y z : D) (S : Sta) : kPar3 i j l P [x, y, z] S = P.nx ⟨((S.ρ.set i (.val x)).set j (.val y)).set l (.val z), S.W⟩ := by
  apply propext
  constructor
  · rintro ⟨_, _, _, e, h⟩; cases e; exact h
  · exact fun h => ⟨_, _, _, rfl, h⟩
theorem pms_par3 {X : Cx} {i j l : Nat} {t : PTA} {st : Stmt} (h : ∀ W, Takes X W → L2.PS X st (tPar3 i j l (lA X W t))) : PMS X st (pPar3 i j l t) := fun W tk => weakS (h W tk) fun D σ H => by
  rintro ⟨S, P, rel, q, up⟩
  refine ⟨S, _, _, rel, q, fun vs ds H1 S1 n1 r1 p1 q1 => ?_, up.ux⟩
  obtain ⟨x, y, z, rfl, q1⟩ := q1
  match vs, p1 with
  | [v1, v2, v3], .cons a1 (.cons a2 (.cons a3 .nil)) =>
    obtain ⟨na, ra⟩ := r1.put (i := i) a1
    obtain ⟨nb, rb⟩ := ra.put (i := j) a2
    obtain ⟨nc, rc⟩ := rb.put (i := l) a3
    exact ⟨_, _, _, rfl, up.nx _ _ _ (((n1.trans na).trans nb).trans nc) rc q1⟩
/-- a def that tells by a word how the call of what it got ended -/
structure WordD (K : PySem.W.Frag) (mg : Str → Option Value) (x : Str) (ws : List (Addr × Str)) : Prop where
  ex : ∃ (g : Addr) (pg : Arguments) (bg : List Stmt) (sg : Scope) (dV kV doc pm cdv ct oc : Value) (an od : Option Addr) (osl : Array (Option Value)), mg x = some (.ref g) ∧ PySem.W.keepIn K (.ref g) = true ∧
    K.lookup g = some ⟨oc, od, .func (PySem.W.fnOf x x pg bg sg dV kV doc pm an cdv ct), osl⟩ ∧ PySem.W.codeIn K cdv x = true ∧ L2.Binds K (PySem.W.fnOf x x pg bg sg dV kV doc pm an cdv ct) ["call"] [] ∧ FnScope ["call", "word"] ["call"] sg ∧ Vis sg "call" ∧
    ∀ (X : Cx) (q : Str), X.K = K → X.mg = mg → GivesTo X ["call", "word"] x sg g cdv bg "call" q (TTword K ws)
theorem WordD.gets {X : Cx} {x : Str} {ws : List (Addr × Str)} (h : WordD X.K X.mg x ws) : Gets X x "call" ["call", "word"] (TTword X.K ws) := by
  obtain ⟨g, pg, bg, sg, dV, kV, doc, pm, cdv, ct, oc, an, od, osl, a1, a2, a3, a4, a5, a6, a7, a8⟩ := h.ex
  exact ⟨g, pg, bg, sg, dV, kV, doc, pm, cdv, ct, oc, an, od, osl, a1, a2, a3, a4, a5, a6, rfl, a7, a8 X _ rfl rfl⟩
end Pl
set_option Elab.async false
set_option linter.all false
set_option maxRecDepth 100000
set_option maxHeartbeats 4000000
/-! PlEndT: the end of a law with tables of code objects -/
namespace Pl
open PySem PySem.Spec L2
/-- a promise that also takes a tracked list, as a known thing -/
def spZ (sp : Sp) : Sp := fun vs H Q E => sp vs H Q E ∨ ∃ a xs, H a = some (.lst xs) ∧ (∀ o, sp vs (upd H a (.frz o (.lst xs))) Q E) ∧ ∀ x cls dd, ¬ E x cls dd
section
variable {P : Program} {w : World} {K : PySem.W.Frag} {mg : Str → Option Value} {base : Heap} {k : Nat} {f : Addr} {fd : FuncData} {ps : List Str} {sp : Sp}
theorem cx_any {outer : List Env} {H : Hp} {s : Shared} {e : Value} {s' : Shared} {E : XK} (hE : ∀ x cls dd, ¬ E x cls dd) (h : L2.CX P w outer H s E e s') : False := by
  obtain ⟨_, _, _, _, _, _, _, _, _, _, _, _, h⟩ := h
  exact hE _ _ _ h
theorem fn_spZ (F : FnOk P w K mg base (L2.CX P w) k f fd ps sp) : FnOk P w K mg base (L2.CX P w) k f fd ps (spZ sp) where
  len := fun vs H Q E h => by
    rcases h with h | ⟨a, xs, _, h, _⟩
    · exact F.len _ _ _ _ h
    · exact F.len _ _ _ _ (h { cls := .none, data := .plain })
  run := fun A outer s H args us vs Q E hr e hb hv h => by
    rcases h with h | ⟨a, xs, ha, h, hE⟩
    · exact F.run _ _ _ _ _ _ _ _ _ hr e hb hv h
    · have ho := e.hok a _ ha
      obtain ⟨o, hg⟩ : ∃ o, s.heap.get? a = some o := Option.isSome_iff_exists.mp (by
        obtain ⟨_, _, _, _, z⟩ := ho
        rw [z]; rfl)
      have ne : ∀ b, H b = none → b ≠ a := fun b hb z => by subst z; rw [ha] at hb; cases hb
      have e2 : Env0 P w K mg base A outer s (upd H a (.frz o (.lst xs))) := ⟨e.frames, e.mod, fun b ob hb => ⟨(e.bs b ob hb).1, (upd_ne (ne b (e.bs b ob hb).2)).trans (e.bs b ob hb).2⟩, e.bsz, e.funs, fun b hb => (upd_ne (ne b (e.frf b hb))).trans (e.frf b hb), fun b ob hb => by
        have st : ∀ {u : HO}, ObjOk P w H s.heap b u → ObjOk P w (upd H a (.frz o (.lst xs))) s.heap b u := fun z => z.stay (fun _ _ _ q => q) (fun c q => (upd_ne (fun z => by subst z; rw [ha] at q; cases q)).trans q) fun c ys q => (upd_ne (fun z => by subst z; rw [ha] at q; cases q)).trans q
        by_cases hb2 : b = a
        · subst hb2
          rw [upd_same] at hb
          cases hb
          exact ⟨hg, st ho⟩
        · rw [upd_ne hb2] at hb
          exact st (e.hok b ob hb), e.bare⟩
      refine codeAny_mono (F.run _ _ _ _ _ _ _ _ _ hr e2 hb hv (h o)) fun r s' z => ?_
      cases r with
      | error x => exact (cx_any hE z).elim
      | ok fl =>
        cases fl with
        | next => exact z
        | brk => exact z
        | cont => exact z
        | ret u =>
          obtain ⟨v, H', os, bare, un, hok, rv, q⟩ := z
          refine ⟨v, H', os, bare, ?_, hok, rv, q⟩
          exact ⟨fun b ob h1 h2 => un.keep b ob h1 ((upd_ne (ne b h2)).trans h2), fun b ob h1 h2 => un.slot b ob h1 ((upd_ne (ne b h2)).trans h2), fun b ob h1 h2 => un.free b ob h1 ((upd_ne (ne b h2)).trans h2), un.there,
            fun b ys hb => un.tups b ys ((upd_ne (fun z => by subst z; rw [ha] at hb; cases hb)).trans hb), fun b ob u hb => un.frzs b ob u ((upd_ne (fun z => by subst z; rw [ha] at hb; cases hb)).trans hb), fun b ys hb => un.tbls b ys ((upd_ne (fun z => by subst z; rw [ha] at hb; cases hb)).trans hb)⟩
end
theorem script_repT {K : PySem.W.Frag} {H : Hp} {a : Addr} {ns : List Int} (hS : (∃ o, H a = some (.frz o (.lst (ns.map V.int)))) ∨ ∃ (o : Obj) (its : Array Value) (n : Nat), K.lookup a = some o ∧ o.cls = .type "list" ∧ o.dict = none ∧ o.data = .seq its n ∧ its.size ≤ sizeLine ∧ Vals (ns.map V.int) its.toList) : Rep K H (.ref a) (.lst (ns.map D.int)) := by
  have ra : RepAll K H (ns.map V.int) (ns.map D.int) := by
    clear hS
    induction ns with
    | nil => exact .nil
    | cons n r ih => exact .cons (.int n) ih
  exact .lst hS ra
/-- the own objects at a law's entry: its tables -/
def tabW (ts : List (Addr × Str)) : Addr → Option Own := fun b => (ts.lookup b).map .tbl
theorem tabW_rel {K : PySem.W.Frag} {H : Hp} {ts : List (Addr × Str)} (h : ∀ p ∈ ts, H p.1 = some (.tbl #[])) : RelW K H (tabW ts) := fun b o e => by
  unfold tabW at e
  cases hl : ts.lookup b with
  | none => rw [hl] at e; cases e
  | some q =>
    rw [hl] at e
    cases e
    have key : ∀ t : List (Addr × Str), t.lookup b = some q → (b, q) ∈ t := fun t => by
      induction t with
      | nil => intro h; cases h
      | cons q' r ih =>
        intro h
        rw [List.lookup_cons] at h
        split at h
        · rename_i c
          have c := eq_of_beq c
          cases h
          subst c
          exact List.mem_cons_self ..
        · exact List.mem_cons_of_mem _ (ih h)
    exact LamX.TabS.nil (h (b, q) (key ts hl))
theorem law_spT {K : PySem.W.Frag} {H : Hp} {a : Addr} {ns : List Int} {φ : PFn} {ts : List (Addr × Str)} (hφ : ∀ (ds : List D) (Q : D → (Addr → Option Own) → Prop) E, ds = [.lst (ns.map D.int)] → (∀ W', Q (.bl true) W') → φ ds (tabW ts) Q E) (hT : ∀ p ∈ ts, H p.1 = some (.tbl #[])) (hS : SqL K H a (ns.map V.int)) :
    spZ (spP K 1 φ) [.ref a] H (fun v _ => v = .bl true) fun _ _ _ => False := by
  have go : ∀ H' : Hp, (∀ p ∈ ts, H' p.1 = some (.tbl #[])) → ((∃ o, H' a = some (.frz o (.lst (ns.map V.int)))) ∨ ∃ (o : Obj) (its : Array Value) (n : Nat), K.lookup a = some o ∧ o.cls = .type "list" ∧ o.dict = none ∧ o.data = .seq its n ∧ its.size ≤ sizeLine ∧ Vals (ns.map V.int) its.toList) →
      spP K 1 φ [.ref a] H' (fun v _ => v = .bl true) fun _ _ _ => False := fun H' hT' hS' => by
    refine ⟨[.lst (ns.map D.int)], tabW ts, fun d _ => d = .bl true, fun _ _ => False, rfl, .cons (script_repT hS') .nil, tabW_rel hT', hφ _ _ _ rfl fun _ => rfl, fun v d H' W' _ _ r e => ?_, fun _ _ _ _ _ _ _ _ h => h⟩
    subst e
    cases r
    rfl
  rcases hS with (h | h) | h
  · refine .inr ⟨a, _, h, fun o => go _ (fun p hp => ?_) (.inl ⟨o, upd_same⟩), fun _ _ _ z => z⟩
    have := hT p hp
    exact (upd_ne (fun z => by rw [z, h] at this; cases this)).trans this
  · exact .inl (go H hT (.inl h))
  · exact .inl (go H hT (.inr h))
theorem FunC.fun {K : PySem.W.Frag} {x qual : Str} {st : Stmt} {f c : Addr} {fd : FuncData} (F : FunC K x qual st f fd c) : Fun K x qual st f fd := by
  obtain ⟨oc, od, kV, doc, pm, an, ct, osl, e, lk, hcd⟩ := F.ex
  exact ⟨⟨oc, od, kV, doc, pm, an, _, ct, osl, e, lk, hcd⟩, F.kp⟩
end Pl
set_option Elab.async false
set_option linter.all false
set_option maxRecDepth 100000
set_option maxHeartbeats 4000000
/-! Rl: runs. A second reading of a derivation: a function that tells what a def returns, and that is sound for the first reading. -/
namespace Pl
open PySem PySem.Spec L2
abbrev Wt := Addr → Option Own
/-- how a def ends -/
inductive Out where
  | rt (d : D) (W : Wt) | ex (x : Exn) (W : Wt) | bad
structure Ks where
  nx : Sta → Out
  rt : D → Sta → Out
  bk : Sta → Out
  ct : Sta → Out
  ex : Exn → Sta → Out
abbrev RX := Exn → Sta → Out
abbrev RG (α : Type) := Sta → (α → Sta → Out) → RX → Out
abbrev RE := RG D
abbrev RT := RG Bool
abbrev RA := RG (List D)
abbrev RS := Ks → Sta → Out
abbrev Tg (α : Type) := Sta → (α → Sta → Prop) → PX → Prop
/-- r is sound for t -/
def Snd {α : Type} (t : Tg α) (r : RG α) : Prop := ∀ (A : Out → Prop), ¬ A .bad → ∀ S k e (Q : α → Sta → Prop) (E : PX), (∀ a S1, A (k a S1) → Q a S1) → (∀ x S1, A (e x S1) → E x S1) → A (r S k e) → t S Q E
structure Acc (A : Out → Prop) (K : Ks) (P : PEnds) : Prop where
  nx : ∀ S, A (K.nx S) → P.nx S
  rt : ∀ d S, A (K.rt d S) → P.rt d S
  bk : ∀ S, A (K.bk S) → P.bk S
  ct : ∀ S, A (K.ct S) → P.ct S
  ex : ∀ x S, A (K.ex x S) → P.ex x S
def SndS (t : PTS) (r : RS) : Prop := ∀ (A : Out → Prop), ¬ A .bad → ∀ K P S, Acc A K P → A (r K S) → t P S
def RM (X : Cx) (e : Expr) (r : RE) : Prop := ∃ t, PM X e t ∧ Snd t r
def RMT (X : Cx) (e : Expr) (r : RT) : Prop := ∃ t, PMT X e t ∧ Snd t r
def RMW (X : Cx) (e : Expr) (r : RT) : Prop := ∃ t, PMW X e t ∧ Snd t r
def RMTs (X : Cx) (e : List Expr) (r : RT) : Prop := ∃ t, PMTs X e t ∧ Snd t r
def RMA (X : Cx) (e : List Expr) (r : RA) : Prop := ∃ t, PMA X e t ∧ Snd t r
def RMK (X : Cx) (e : Expr) (r : RG Pk) : Prop := ∃ t, PK X e t ∧ Snd t r
def RMI (X : Cx) (tg e : Expr) (r : RA) : Prop := ∃ t, PMI X tg e t ∧ Snd t r
def RMO (X : Cx) (e : Expr) (r : RG Own) : Prop := ∃ t, PMO X e t ∧ Snd t r
def RMS (X : Cx) (st : Stmt) (r : RS) : Prop := ∃ t, PMS X st t ∧ SndS t r
def RMSs (X : Cx) (st : List Stmt) (r : RS) : Prop := ∃ t, PMSs X st t ∧ SndS t r
/-! ### operators by values, as functions -/
def OpF (X : Cx) (g : Value → Value → Sem Value) (f : D → D → Option D) : Prop := ∃ o, OpD X g o ∧ ∀ x y z (Q : D → Prop), f x y = some z → Q z → o x y Q
def UnF (X : Cx) (g : Value → Sem Value) (f : D → Option D) : Prop := ∃ o, UnD X g o ∧ ∀ x z (Q : D → Prop), f x = some z → Q z → o x Q
def CallFn (X : Cx) (v : Value) (f : List D → Option D) : Prop := ∃ o, CallD X v o ∧ ∀ x z (Q : D → Prop), f x = some z → Q z → o x Q
/-- on, or bad -/
def thnO {β : Type} (o : Option β) (k : β → Out) : Out := match o with
  | some z => k z
  | none => .bad
theorem thnO_some {β : Type} (z : β) (k : β → Out) : thnO (some z) k = k z := rfl
theorem thnO_ok {β : Type} {A : Out → Prop} (nb : ¬ A .bad) {o : Option β} {k : β → Out} (h : A (thnO o k)) : ∃ z, o = some z ∧ A (k z) := by
  cases o with
  | none => exact absurd h nb
  | some z => exact ⟨z, rfl, h⟩
def fAdd (x y : D) : Option D := match x, y with
  | .int i, .int j => some (.int (i + j))
  | .str x, .str y => if x.length + y.length ≤ sizeLine then some (.str (x ++ y)) else none
  | .tup xs, .tup ys => if xs.length + ys.length ≤ sizeLine then some (.tup (xs ++ ys)) else none
  | .lst xs, .lst ys => if xs.length + ys.length ≤ sizeLine then some (.lst (xs ++ ys)) else none
  | _, _ => none
def fInt (C : Int → Int → Bool) (g : Int → Int → Int) (x y : D) : Option D := match x, y with
  | .int i, .int j => if C i j = true then some (.int (g i j)) else none
  | _, _ => none
def fCmp (g : Int → Int → Bool) (x y : D) : Option D := match x, y with
  | .int i, .int j => some (.bl (g i j))
  | _, _ => none
def fNeg (x : D) : Option D := match x with
  | .int i => some (.int (-i))
  | _ => none
def fEq (x y : D) : Option D := if x.good = true ∧ y.good = true then some (.bl (eqD x y)) else none
def fNe (x y : D) : Option D := if x.good = true ∧ y.good = true then some (.bl (!eqD x y)) else none
def inB (neg : Bool) (b : Bool) : D := .bl (if neg then !b else b)
def fIn (neg : Bool) (x y : D) : Option D := match y with
  | .tup ys => if x.good = true ∧ D.good (.tup ys) = true then some (inB neg (ys.any fun z => eqD z x)) else none
  | .lst ys => if x.good = true ∧ D.good (.lst ys) = true then some (inB neg (ys.any fun z => eqD z x)) else none
  | .str t => match x with
    | .str w => some (inB neg (!(Builtin.Str.occurrences t w 0 t.length 1).isEmpty))
    | _ => none
  | _ => none
def fIsN (neg : Bool) (x y : D) : Option D := match y with
  | .non => some (inB neg x.isN)
  | _ => none
def fIx (x y : D) : Option D := match x, y with
  | .tup xs, .int i => atI xs i
  | .lst xs, .int i => atI xs i
  | .str z, .int i => if z.length ≤ sizeLine then (atI z.cps.toList i).map fun c => .str ⟨#[c]⟩ else none
  | _, _ => none
def fSl (x : D) (lo hi : Option Int) : Option D := match x with
  | .tup xs => some (.tup (cutD xs lo hi))
  | .lst xs => some (.lst (cutD xs lo hi))
  | _ => none
def fLen (x : D) : Option D := match x with
  | .tup xs => some (.int xs.length)
  | .lst xs => some (.int xs.length)
  | .str z => if z.length ≤ sizeLine then some (.int z.length) else none
  | _ => none
def f1I (g : Int → Int) (ds : List D) : Option D := match ds with
  | [.int i] => some (.int (g i))
  | _ => none
def f2I (g : Int → Int → Int) (ds : List D) : Option D := match ds with
  | [.int i, .int j] => some (.int (g i j))
  | _ => none
def fSum (ds : List D) : Option D := match ds with
  | [.lst xs] => (intsD xs).map fun ns => .int ns.sum
  | _ => none
def fAll (ds : List D) : Option D := match ds with
  | [.lst xs] => (blsD xs).map fun ns => .bl (ns.all id)
  | _ => none
def fAny (ds : List D) : Option D := match ds with
  | [.lst xs] => (blsD xs).map fun ns => .bl (ns.any id)
  | _ => none
def fList (ds : List D) : Option D := match ds with
  | [.tup xs] => some (.lst xs)
  | [.lst xs] => some (.lst xs)
  | _ => none
def fTuple (ds : List D) : Option D := match ds with
  | [.tup xs] => some (.tup xs)
  | [.lst xs] => some (.tup xs)
  | _ => none
def fIsi (ds : List D) : Option D := match ds with
  | [x, .ty T] => if x.dat = true ∧ isiT T = true then some (.bl (isiB x T)) else none
  | _ => none
def cMul (i j : Int) : Bool := (decide (-(2 ^ 64) < i) && decide (i < 2 ^ 64)) || (decide (-(2 ^ 64) < j) && decide (j < 2 ^ 64))
def cDv (_ j : Int) : Bool := decide (0 < j) && decide (j < 2 ^ 200)
def cMod (_ j : Int) : Bool := decide (0 < j)
def cPow (i j : Int) : Bool := decide (0 ≤ j) && decide (j ≤ 1000000) && decide (i.natAbs < 2 ^ 64)
def cAny (_ _ : Int) : Bool := true
def gPow (i j : Int) : Int := i ^ j.toNat
section
variable {X : Cx}
theorem of_some {α : Type} {c : Prop} [Decidable c] {a b : α} (h : (if c then some a else none) = some b) : c ∧ a = b := by
  split at h
  · rename_i hc; exact ⟨hc, Option.some.inj h⟩
  · cases h
theorem of_add : OpF X (binaryOp .Add) fAdd := ⟨_, od_add, fun x y z Q h q => by
  unfold fAdd at h
  split at h
  · cases h; exact q
  · obtain ⟨hc, rfl⟩ := of_some h; exact ⟨hc, q⟩
  · obtain ⟨hc, rfl⟩ := of_some h; exact ⟨hc, q⟩
  · obtain ⟨hc, rfl⟩ := of_some h; exact ⟨hc, q⟩
  · cases h⟩
theorem of_int {g : Value → Value → Sem Value} {C : Int → Int → Prop} {c : Int → Int → Bool} {f : Int → Int → Int} (h : OpD X g (oInt C f)) (hc : ∀ i j, c i j = true → C i j) : OpF X g (fInt c f) := ⟨_, h, fun x y z Q h q => by
  unfold fInt at h
  split at h
  · obtain ⟨h1, rfl⟩ := of_some h; exact ⟨hc _ _ h1, q⟩
  · cases h⟩
theorem of_sub : OpF X (binaryOp .Sub) (fInt cAny fun i j => i - j) := of_int od_sub fun _ _ _ => trivial
theorem of_mul : OpF X (binaryOp .Mult) (fInt cMul fun i j => i * j) := of_int od_mul fun i j h => by
  simp only [cMul, Bool.or_eq_true, Bool.and_eq_true, decide_eq_true_eq] at h
  exact h
theorem of_fdiv : OpF X (binaryOp .FloorDiv) (fInt cDv fun i j => i / j) := of_int od_fdiv fun i j h => by
  simp only [cDv, Bool.and_eq_true, decide_eq_true_eq] at h
  exact h
theorem of_mod : OpF X (binaryOp .Mod) (fInt cMod fun i j => i % j) := of_int od_mod fun i j h => by
  simpa only [cMod, decide_eq_true_eq] using h
theorem of_pow : OpF X (binaryOp .Pow) (fInt cPow gPow) := of_int od_pow fun i j h => by
  simp only [cPow, Bool.and_eq_true, decide_eq_true_eq] at h
  exact ⟨h.1.1, h.1.2, h.2⟩
theorem of_cmp {g : Value → Value → Sem Value} {f : Int → Int → Bool} (h : OpD X g (oCmp f)) : OpF X g (fCmp f) := ⟨_, h, fun x y z Q h q => by
  unfold fCmp at h
  split at h
  · cases h; exact q
  · cases h⟩
theorem of_lt : OpF X (compareOp .Lt) (fCmp fun i j => decide (i < j)) := of_cmp od_lt
theorem of_le : OpF X (compareOp .LtE) (fCmp fun i j => decide (i ≤ j)) := of_cmp od_le
theorem of_gt : OpF X (compareOp .Gt) (fCmp fun i j => decide (j < i)) := of_cmp od_gt
theorem of_ge : OpF X (compareOp .GtE) (fCmp fun i j => decide (j ≤ i)) := of_cmp od_ge
theorem uf_neg : UnF X (unaryOp .USub) fNeg := ⟨_, ud_neg, fun x z Q h q => by
  unfold fNeg at h
  split at h
  · cases h; exact q
  · cases h⟩
theorem of_eq (hu : X.A.units + 64 < cLine) : OpF X (compareOp .Eq) fEq := ⟨_, od_eq hu, fun x y z Q h q => by
  obtain ⟨hc, rfl⟩ := of_some h; exact ⟨hc.1, hc.2, q⟩⟩
theorem of_ne (hu : X.A.units + 64 < cLine) : OpF X (compareOp .NotEq) fNe := ⟨_, od_ne hu, fun x y z Q h q => by
  obtain ⟨hc, rfl⟩ := of_some h; exact ⟨hc.1, hc.2, q⟩⟩
theorem in_sound {neg : Bool} {x y z : D} {Q : D → Prop} (h : fIn neg x y = some z) (q : Q z) : oIn neg x y Q := by
  unfold fIn at h
  split at h
  · obtain ⟨hc, rfl⟩ := of_some h; exact ⟨hc.1, hc.2, q⟩
  · obtain ⟨hc, rfl⟩ := of_some h; exact ⟨hc.1, hc.2, q⟩
  · split at h
    · cases h; exact q
    · cases h
  · cases h
theorem of_in (hu : X.A.units + 65 < cLine) : OpF X (compareOp .In) (fIn false) := ⟨_, od_in hu, fun _ _ _ _ h q => in_sound h q⟩
theorem of_notIn (hu : X.A.units + 65 < cLine) : OpF X (compareOp .NotIn) (fIn true) := ⟨_, od_notIn hu, fun _ _ _ _ h q => in_sound h q⟩
theorem isN_sound {neg : Bool} {x y z : D} {Q : D → Prop} (h : fIsN neg x y = some z) (q : Q z) : oIsN neg x y Q := by
  unfold fIsN at h
  split at h
  · cases h; exact q
  · cases h
theorem of_isN : OpF X (compareOp .Is) (fIsN false) := ⟨_, od_isN, fun _ _ _ _ h q => isN_sound h q⟩
theorem of_notN : OpF X (compareOp .IsNot) (fIsN true) := ⟨_, od_notN, fun _ _ _ _ h q => isN_sound h q⟩
theorem ix_sound {x y z : D} {Q : D → Prop} (h : fIx x y = some z) (q : Q z) : oIx x y Q := by
  unfold fIx at h
  split at h
  · exact ⟨_, h, q⟩
  · exact ⟨_, h, q⟩
  · split at h
    · rename_i hc
      obtain ⟨c, h1, rfl⟩ := Option.map_eq_some_iff.mp h
      exact ⟨hc, c, h1, q⟩
    · cases h
  · cases h
theorem sl_sound {x z : D} {lo hi : Option Int} {Q : D → Prop} (h : fSl x lo hi = some z) (q : Q z) : oSl x lo hi Q := by
  unfold fSl at h
  split at h
  · cases h; exact q
  · cases h; exact q
  · cases h
theorem len_sound {x z : D} {Q : D → Prop} (h : fLen x = some z) (q : Q z) : oLen [x] Q := by
  unfold fLen at h
  split at h
  · cases h; exact q
  · cases h; exact q
  · obtain ⟨hc, rfl⟩ := of_some h; exact ⟨hc, q⟩
  · cases h
theorem cf_1 {v : Value} {g : Int → Int} (h : CallD X v (o1I g)) : CallFn X v (f1I g) := ⟨_, h, fun x z Q h q => by
  unfold f1I at h
  split at h
  · cases h; exact q
  · cases h⟩
theorem cf_2 {v : Value} {g : Int → Int → Int} (h : CallD X v (o2I g)) : CallFn X v (f2I g) := ⟨_, h, fun x z Q h q => by
  unfold f2I at h
  split at h
  · cases h; exact q
  · cases h⟩
theorem cf_abs : CallFn X (.builtin "abs") (f1I fun i => if i < 0 then -i else i) := cf_1 cd_abs
theorem cf_int : CallFn X (.type "int") (f1I fun i => i) := cf_1 cd_int
theorem cf_max2 (hc : X.calm = true) : CallFn X (.builtin "max") (f2I fun i j => if j > i then j else i) := cf_2 (cd_max2 hc)
theorem cf_min2 (hc : X.calm = true) : CallFn X (.builtin "min") (f2I fun i j => if j < i then j else i) := cf_2 (cd_min2 hc)
theorem cf_sum (hc : X.calm = true) : CallFn X (.builtin "sum") fSum := ⟨_, cd_sum hc, fun x z Q h q => by
  unfold fSum at h
  split at h
  · obtain ⟨c, h1, rfl⟩ := Option.map_eq_some_iff.mp h; exact ⟨_, c, rfl, h1, q⟩
  · cases h⟩
theorem cf_all (hc : X.calm = true) : CallFn X (.builtin "all") fAll := ⟨_, cd_all hc, fun x z Q h q => by
  unfold fAll at h
  split at h
  · obtain ⟨c, h1, rfl⟩ := Option.map_eq_some_iff.mp h; exact ⟨_, c, rfl, h1, q⟩
  · cases h⟩
theorem cf_any (hc : X.calm = true) : CallFn X (.builtin "any") fAny := ⟨_, cd_any hc, fun x z Q h q => by
  unfold fAny at h
  split at h
  · obtain ⟨c, h1, rfl⟩ := Option.map_eq_some_iff.mp h; exact ⟨_, c, rfl, h1, q⟩
  · cases h⟩
theorem cf_list : CallFn X (.type "list") fList := ⟨_, cd_list, fun x z Q h q => by
  unfold fList at h
  split at h
  · cases h; exact q
  · cases h; exact q
  · cases h⟩
theorem cf_tuple : CallFn X (.type "tuple") fTuple := ⟨_, cd_tuple, fun x z Q h q => by
  unfold fTuple at h
  split at h
  · cases h; exact q
  · cases h; exact q
  · cases h⟩
theorem cf_isi : CallFn X (.builtin "isinstance") fIsi := ⟨_, cd_isi, fun x z Q h q => by
  unfold fIsi at h
  split at h
  · obtain ⟨hc, rfl⟩ := of_some h; exact ⟨hc.1, hc.2, q⟩
  · cases h⟩
end
end Pl
set_option Elab.async false
set_option linter.all false
set_option maxRecDepth 100000
set_option maxHeartbeats 4000000
/-! RlE: runs of expressions -/
namespace Pl
open PySem PySem.Spec L2
def fSub (x y : D) : Option D := fInt cAny (fun i j => i - j) x y
def fMul (x y : D) : Option D := fInt cMul (fun i j => i * j) x y
def fDiv (x y : D) : Option D := fInt cDv (fun i j => i / j) x y
def fMod (x y : D) : Option D := fInt cMod (fun i j => i % j) x y
def fPow (x y : D) : Option D := fInt cPow gPow x y
def fLt (x y : D) : Option D := fCmp (fun i j => decide (i < j)) x y
def fLe (x y : D) : Option D := fCmp (fun i j => decide (i ≤ j)) x y
def fGt (x y : D) : Option D := fCmp (fun i j => decide (j < i)) x y
def fGe (x y : D) : Option D := fCmp (fun i j => decide (j ≤ i)) x y
def gAbs (i : Int) : Int := if i < 0 then -i else i
def gId (i : Int) : Int := i
def gMax (i j : Int) : Int := if j > i then j else i
def gMin (i j : Int) : Int := if j < i then j else i
def fAbs (ds : List D) : Option D := f1I gAbs ds
def fInt1 (ds : List D) : Option D := f1I gId ds
def fMax2 (ds : List D) : Option D := f2I gMax ds
def fMin2 (ds : List D) : Option D := f2I gMin ds
section
variable {X : Cx}
theorem rf_sub : OpF X (binaryOp .Sub) fSub := of_sub
theorem rf_mul : OpF X (binaryOp .Mult) fMul := of_mul
theorem rf_fdiv : OpF X (binaryOp .FloorDiv) fDiv := of_fdiv
theorem rf_mod : OpF X (binaryOp .Mod) fMod := of_mod
theorem rf_pow : OpF X (binaryOp .Pow) fPow := of_pow
theorem rf_lt : OpF X (compareOp .Lt) fLt := of_lt
theorem rf_le : OpF X (compareOp .LtE) fLe := of_le
theorem rf_gt : OpF X (compareOp .Gt) fGt := of_gt
theorem rf_ge : OpF X (compareOp .GtE) fGe := of_ge
theorem rf_abs : CallFn X (.builtin "abs") fAbs := cf_abs
theorem rf_int : CallFn X (.type "int") fInt1 := cf_int
theorem rf_max2 (hc : X.calm = true) : CallFn X (.builtin "max") fMax2 := cf_max2 hc
theorem rf_min2 (hc : X.calm = true) : CallFn X (.builtin "min") fMin2 := cf_min2 hc
end
def rC (d : D) : RE := fun S k _ => k d S
def rVar (i : Nat) : RE := fun S k _ => match S.ρ[i]? with
  | some (.val d) => k d S
  | some (.own (.lst xs)) => k (.lst xs) ⟨S.ρ.set i (.val (.lst xs)), S.W⟩
  | some (.own (.dct ks vs)) => k (.dct ks vs) ⟨S.ρ.set i (.val (.dct ks vs)), S.W⟩
  | _ => .bad
def rOp (f : D → D → Option D) (ra rb : RE) : RE := fun S k e => ra S (fun x S1 => rb S1 (fun y S2 => thnO (f x y) fun z => k z S2) e) e
def rUn (f : D → Option D) (ra : RE) : RE := fun S k e => ra S (fun x S1 => thnO (f x) fun z => k z S1) e
def rPart : Option RE → RG (Option Int)
  | none => fun S k _ => k none S
  | some r => fun S k e => r S (fun d S1 => match d with
    | .int i => k (some i) S1
    | _ => .bad) e
def rSl (ra : RE) (lo hi : Option RE) : RE := fun S k e => ra S (fun x S1 => rPart lo S1 (fun l S2 => rPart hi S2 (fun h S3 => thnO (fSl x l h) fun z => k z S3) e) e) e
def rNil : RA := fun S k _ => k [] S
def rCons (r : RE) (u : RA) : RA := fun S k e => r S (fun x S1 => u S1 (fun xs S2 => k (x :: xs) S2) e) e
def rTup (t : RA) : RE := fun S k e => t S (fun ds S1 => if ds.length ≤ sizeLine then k (.tup ds) S1 else .bad) e
def rLst (t : RA) : RE := fun S k e => t S (fun ds S1 => if ds.length ≤ sizeLine then k (.lst ds) S1 else .bad) e
def rCallB (f : List D → Option D) (t : RA) : RE := fun S k e => t S (fun ds S1 => thnO (f ds) fun z => k z S1) e
def blK (d : D) (k : Bool → Out) : Out := match d with
  | .bl b => k b
  | _ => .bad
def rTest (r : RE) : RT := fun S k e => r S (fun d S1 => blK d fun b => k b S1) e
def rNot (t : RT) : RT := fun S k e => t S (fun b S1 => k (!b) S1) e
def rAnd (t u : RT) : RT := fun S k e => t S (fun b S1 => if b = true then u S1 k e else k false S1) e
def rOr (t u : RT) : RT := fun S k e => t S (fun b S1 => if b = true then k true S1 else u S1 k e) e
def rAndV (ra rb : RE) : RE := fun S k e => ra S (fun x S1 => blK x fun c => if c = true then rb S1 k e else k (.bl false) S1) e
def rOrV (ra rb : RE) : RE := fun S k e => ra S (fun x S1 => blK x fun c => if c = true then k (.bl true) S1 else rb S1 k e) e
def rNotV (ra : RE) : RE := fun S k e => ra S (fun x S1 => blK x fun c => k (.bl (!c)) S1) e
def rIf (t : RT) (ra rb : RE) : RE := fun S k e => t S (fun b S1 => if b = true then ra S1 k e else rb S1 k e) e
def rChain (f g : D → D → Option D) (ra rb rc : RE) : RE := fun S k e => ra S (fun x S1 => rb S1 (fun y S2 => thnO (f x y) fun z => blK z fun c => if c = true then rc S2 (fun w S3 => thnO (g y w) fun u => k u S3) e else k (.bl false) S2) e) e
section
variable {X : Cx} {a b c e : Expr} {es : List Expr} {ra rb rc r : RE} {rt ru : RT} {u : RA} {pos : Pos}
theorem blK_ok {A : Out → Prop} (nb : ¬ A .bad) {d : D} {k : Bool → Out} (h : A (blK d k)) : ∃ b, d = .bl b ∧ A (k b) := by
  unfold blK at h
  split at h
  · exact ⟨_, rfl, h⟩
  · exact absurd h nb
theorem bad_if {A : Out → Prop} (nb : ¬ A .bad) {c : Prop} [Decidable c] {o : Out} (h : A (if c then o else .bad)) : c ∧ A o := by
  split at h
  · rename_i hc; exact ⟨hc, h⟩
  · exact absurd h nb
theorem rm_c {d : D} (h : PM X e (pC d)) : RM X e (rC d) := ⟨_, h, fun A nb S k ex Q E hk he q => hk _ _ q⟩
theorem rm_int {i j pos} : RM X (.Constant (.int i) j pos) (rC (.int i)) := rm_c pm_int
theorem rm_bl {b j pos} : RM X (.Constant (.bool b) j pos) (rC (.bl b)) := rm_c pm_bl
theorem rm_non {j pos} : RM X (.Constant .none j pos) (rC .non) := rm_c pm_non
theorem rm_str {x j pos} : RM X (.Constant (.str x) j pos) (rC (.str x)) := rm_c pm_str
theorem rm_var {i : Nat} (h : PE X e (tVar i)) : RM X e (rVar i) := ⟨_, pm_var h, fun A nb S k ex Q E hk he q => by
  unfold rVar at q
  unfold pVar
  split at q
  · rename_i h1; (try simp only [h1]); exact hk _ _ q
  · rename_i h1; (try simp only [h1]); exact hk _ _ q
  · rename_i h1; (try simp only [h1]); exact hk _ _ q
  · exact absurd q nb⟩
theorem snd_op {o : Op2} {f : D → D → Option D} {ta tb : PTE} (h : ∀ x y z (Q : D → Prop), f x y = some z → Q z → o x y Q) (ha : Snd ta ra) (hb : Snd tb rb) : Snd (pOp o ta tb) (rOp f ra rb) := fun A nb S k ex Q E hk he q =>
  ha A nb S _ ex _ E (fun x S1 q1 => hb A nb S1 _ ex _ E (fun y S2 q2 => by
    obtain ⟨z, e1, e2⟩ := thnO_ok nb q2
    exact h _ _ _ _ e1 (hk _ _ e2)) he q1) he q
theorem rm_op {op : Operator} {f : D → D → Option D} (ho : OpF X (binaryOp op) f) (ha : RM X a ra) (hb : RM X b rb) : RM X (.BinOp a op b pos) (rOp f ra rb) := by
  obtain ⟨o, ho, h⟩ := ho; obtain ⟨ta, pa, sa⟩ := ha; obtain ⟨tb, pb, sb⟩ := hb
  exact ⟨_, pm_op ho pa pb, snd_op h sa sb⟩
theorem rm_un {op : UnaryOp} {f : D → Option D} (ho : UnF X (unaryOp op) f) (ha : RM X a ra) : RM X (.UnaryOp op a pos) (rUn f ra) := by
  obtain ⟨o, ho, h⟩ := ho; obtain ⟨ta, pa, sa⟩ := ha
  exact ⟨_, pm_un ho pa, fun A nb S k ex Q E hk he q => sa A nb S _ ex _ E (fun x S1 q1 => by
    obtain ⟨z, e1, e2⟩ := thnO_ok nb q1
    exact h _ _ _ e1 (hk _ _ e2)) he q⟩
theorem rm_cmp {op : CmpOp} {f : D → D → Option D} (ho : OpF X (compareOp op) f) (ha : RM X a ra) (hb : RM X b rb) (h1 : behindInMarks op b = false) : RM X (.Compare a [op] [b] pos) (rOp f ra rb) := by
  obtain ⟨o, ho, h⟩ := ho; obtain ⟨ta, pa, sa⟩ := ha; obtain ⟨tb, pb, sb⟩ := hb
  exact ⟨_, pm_cmp ho pa pb h1, snd_op h sa sb⟩
theorem rm_chain {op op' : CmpOp} {f g : D → D → Option D} (ho : OpF X (compareOp op) f) (ho' : OpF X (compareOp op') g) (ha : RM X a ra) (hb : RM X b rb) (hc : RM X c rc) (hm : lastMarks [op, op'] [b, c] = false := by with_unfolding_all rfl) :
    RM X (.Compare a [op, op'] [b, c] pos) (rChain f g ra rb rc) := by
  obtain ⟨o, ho, h⟩ := ho; obtain ⟨o', ho', h'⟩ := ho'; obtain ⟨ta, pa, sa⟩ := ha; obtain ⟨tb, pb, sb⟩ := hb; obtain ⟨tc, pc, sc⟩ := hc
  exact ⟨_, pm_chain ho ho' pa pb pc hm, fun A nb S k ex Q E hk he q => sa A nb S _ ex _ E (fun x S1 q1 => sb A nb S1 _ ex _ E (fun y S2 q2 => by
    obtain ⟨z, e1, e2⟩ := thnO_ok nb q2
    refine h _ _ _ _ e1 ?_
    obtain ⟨b, rfl, e3⟩ := blK_ok nb e2
    refine ⟨b, rfl, ?_⟩
    cases b with
    | true => exact sc A nb S2 _ ex _ E (fun w S3 q3 => by
        obtain ⟨u, e4, e5⟩ := thnO_ok nb q3
        exact h' _ _ _ _ e4 (hk _ _ e5)) he e3
    | false => exact hk _ _ e3) he q1) he q⟩
def ROX (X : Cx) (lo : Option Expr) (t : Option RE) : Prop := (lo = none ∧ t = none) ∨ ∃ e te, lo = some e ∧ t = some te ∧ RM X e te
theorem part_snd {lo : Option Expr} {t : Option RE} (h : ROX X lo t) : ∃ t', POX X lo t' ∧ Snd (pPart t') (rPart t) := by
  rcases h with ⟨rfl, rfl⟩ | ⟨e, te, rfl, rfl, t', h1, h2⟩
  · exact ⟨none, .inl ⟨rfl, rfl⟩, fun A nb S k ex Q E hk he q => hk _ _ q⟩
  · refine ⟨some t', .inr ⟨_, _, rfl, rfl, h1⟩, fun A nb S k ex Q E hk he q => h2 A nb S _ ex _ E (fun d S1 q1 => ?_) he q⟩
    split at q1
    · exact ⟨_, rfl, hk _ _ q1⟩
    · exact absurd q1 nb
theorem rm_slice {lo hi : Option Expr} {rl rh : Option RE} {p2 : Pos} (ha : RM X a ra) (hl : ROX X lo rl) (hh : ROX X hi rh) : RM X (.Subscript a (.Slice lo hi none p2) pos) (rSl ra rl rh) := by
  obtain ⟨ta, pa, sa⟩ := ha; obtain ⟨tl, pl, sl⟩ := part_snd hl; obtain ⟨th, ph, sh⟩ := part_snd hh
  exact ⟨_, pm_slice sld pa pl ph, fun A nb S k ex Q E hk he q => sa A nb S _ ex _ E (fun x S1 q1 => sl A nb S1 _ ex _ E (fun l S2 q2 => sh A nb S2 _ ex _ E (fun u S3 q3 => by
    obtain ⟨z, e1, e2⟩ := thnO_ok nb q3
    exact sl_sound e1 (hk _ _ e2)) he q2) he q1) he q⟩
theorem rma_nil : RMA X [] rNil := ⟨_, pma_nil, fun A nb S k ex Q E hk he q => hk _ _ q⟩
theorem rma_cons (ha : RM X e r) (hr : RMA X es u) (hs : starEach (e :: es) X.env = (false, eval e X.env) :: starEach es X.env := by rfl) : RMA X (e :: es) (rCons r u) := by
  obtain ⟨ta, pa, sa⟩ := ha; obtain ⟨tb, pb, sb⟩ := hr
  exact ⟨_, pma_cons pa pb hs, fun A nb S k ex Q E hk he q => sa A nb S _ ex _ E (fun x S1 q1 => sb A nb S1 _ ex _ E (fun y S2 q2 => hk _ _ q2) he q1) he q⟩
theorem rm_tup {n : Nat} (h : RMA X es u) : RM X (.Tuple es n pos) (rTup u) := by
  obtain ⟨ta, pa, sa⟩ := h
  exact ⟨_, pm_tup pa, fun A nb S k ex Q E hk he q => sa A nb S _ ex _ E (fun x S1 q1 => by
    obtain ⟨h1, h2⟩ := bad_if nb q1
    exact ⟨h1, hk _ _ h2⟩) he q⟩
theorem rm_lst (h : RMA X es u) : RM X (.List es pos) (rLst u) := by
  obtain ⟨ta, pa, sa⟩ := h
  exact ⟨_, pm_lst pa, fun A nb S k ex Q E hk he q => sa A nb S _ ex _ E (fun x S1 q1 => by
    obtain ⟨h1, h2⟩ := bad_if nb q1
    exact ⟨h1, hk _ _ h2⟩) he q⟩
theorem snd_callB {o : OpN} {f : List D → Option D} {t : PTA} (h : ∀ x z (Q : D → Prop), f x = some z → Q z → o x Q) (ha : Snd t u) : Snd (pCallB o t) (rCallB f u) := fun A nb S k ex Q E hk he q => ha A nb S _ ex _ E (fun x S1 q1 => by
    obtain ⟨z, e1, e2⟩ := thnO_ok nb q1
    exact h _ _ _ e1 (hk _ _ e2)) he q
theorem rm_callB {f : List D → Option D} {x id : String} {p : Pos} (hc : CallFn X (.builtin id) f) (hg : Gl X x) (hm : X.mg x = none) (hv : bootBuiltins x = some (.builtin id)) (ha : RMA X (e :: es) u) (hn : (x : Str) ≠ "__name__" := by decide) (hdb : ((x : Str) == ("__debug__" : Str)) = false := by decide)
    (he : starEach (e :: es) X.env = (false, eval e X.env) :: starEach es X.env := by rfl) (hpl : (backTo pos (starEach es X.env)).any (·.1) = false := by rfl) : RM X (.Call (.Name x p) (e :: es) [] pos) (rCallB f u) := by
  obtain ⟨o, ho, h⟩ := hc; obtain ⟨ta, pa, sa⟩ := ha
  exact ⟨_, pm_callB ho hg hm hv pa hn hdb he hpl, snd_callB h sa⟩
theorem rm_callTy {f : List D → Option D} {x T : String} {p : Pos} (hc : CallFn X (.type T) f) (hg : Gl X x) (hm : X.mg x = none) (hv : bootBuiltins x = some (.type T)) (ha : RMA X (e :: es) u) (hn : (x : Str) ≠ "__name__" := by decide) (hdb : ((x : Str) == ("__debug__" : Str)) = false := by decide)
    (he : starEach (e :: es) X.env = (false, eval e X.env) :: starEach es X.env := by rfl) (hpl : (backTo pos (starEach es X.env)).any (·.1) = false := by rfl) : RM X (.Call (.Name x p) (e :: es) [] pos) (rCallB f u) := by
  obtain ⟨o, ho, h⟩ := hc; obtain ⟨ta, pa, sa⟩ := ha
  exact ⟨_, pm_callTy ho hg hm hv pa hn hdb he hpl, snd_callB h sa⟩
/-! tests -/
theorem snd_test {t : PTE} (h : Snd t r) : Snd (pTest t) (rTest r) := fun A nb S k ex Q E hk he q => h A nb S _ ex _ E (fun x S1 q1 => by
    obtain ⟨b, rfl, e3⟩ := blK_ok nb q1
    exact ⟨b, rfl, hk _ _ e3⟩) he q
theorem rmt_val (h : RM X e r) (he : ∀ whole, isTrue e X.env whole = (do let v ← whole; standAt e.pos; holding [v] (truthy v)) := by intro _; rfl) : RMT X e (rTest r) := by
  obtain ⟨ta, pa, sa⟩ := h
  exact ⟨_, pmt_val pa he, snd_test sa⟩
theorem rmt_cmp {op : CmpOp} {f : D → D → Option D} (ho : OpF X (compareOp op) f) (ha : RM X a ra) (hb : RM X b rb) (h1 : behindInMarks op b = false) : RMT X (.Compare a [op] [b] pos) (rTest (rOp f ra rb)) := by
  obtain ⟨o, ho, h⟩ := ho; obtain ⟨ta, pa, sa⟩ := ha; obtain ⟨tb, pb, sb⟩ := hb
  exact ⟨_, pmt_cmp ho pa pb h1, snd_test (snd_op h sa sb)⟩
theorem rmt_not (h : RMT X a rt) : RMT X (.UnaryOp .Not a pos) (rNot rt) := by
  obtain ⟨ta, pa, sa⟩ := h
  exact ⟨_, pmt_not pa, fun A nb S k ex Q E hk he q => sa A nb S _ ex _ E (fun x S1 q1 => hk _ _ q1) he q⟩
variable {rest : List Expr}
theorem rmw_and1 (h : RMT X a rt) : RMW X (.BoolOp .And [a] pos) rt := by
  obtain ⟨ta, pa, sa⟩ := h; exact ⟨_, pmw_and1 pa, sa⟩
theorem rmw_or1 (h : RMT X a rt) : RMW X (.BoolOp .Or [a] pos) rt := by
  obtain ⟨ta, pa, sa⟩ := h; exact ⟨_, pmw_or1 pa, sa⟩
theorem rmw_and (ha : RMT X a rt) (hb : RMW X (.BoolOp .And (b :: rest) pos) ru) : RMW X (.BoolOp .And (a :: b :: rest) pos) (rAnd rt ru) := by
  obtain ⟨ta, pa, sa⟩ := ha; obtain ⟨tb, pb, sb⟩ := hb
  refine ⟨_, pmw_and pa pb, fun A nb S k ex Q E hk he q => sa A nb S _ ex _ E (fun x S1 q1 => ?_) he q⟩
  cases x with
  | true => exact sb A nb S1 _ ex _ E hk he q1
  | false => exact hk _ _ q1
theorem rmw_or (ha : RMT X a rt) (hb : RMW X (.BoolOp .Or (b :: rest) pos) ru) : RMW X (.BoolOp .Or (a :: b :: rest) pos) (rOr rt ru) := by
  obtain ⟨ta, pa, sa⟩ := ha; obtain ⟨tb, pb, sb⟩ := hb
  refine ⟨_, pmw_or pa pb, fun A nb S k ex Q E hk he q => sa A nb S _ ex _ E (fun x S1 q1 => ?_) he q⟩
  cases x with
  | true => exact hk _ _ q1
  | false => exact sb A nb S1 _ ex _ E hk he q1
theorem rmt_w (h : RMW X a rt) : RMT X a rt := by
  obtain ⟨ta, pa, sa⟩ := h; exact ⟨_, pmt_w pa, sa⟩
theorem rm_one {op} (h : RM X a r) : RM X (.BoolOp op [a] pos) r := by
  obtain ⟨ta, pa, sa⟩ := h; exact ⟨_, pm_one pa, sa⟩
theorem rm_and (ha : RM X a ra) (hb : RM X (.BoolOp .And (b :: rest) pos) rb) : RM X (.BoolOp .And (a :: b :: rest) pos) (rAndV ra rb) := by
  obtain ⟨ta, pa, sa⟩ := ha; obtain ⟨tb, pb, sb⟩ := hb
  refine ⟨_, pm_and pa pb, fun A nb S k ex Q E hk he q => sa A nb S _ ex _ E (fun x S1 q1 => ?_) he q⟩
  obtain ⟨c, rfl, q2⟩ := blK_ok nb q1
  refine ⟨c, rfl, ?_⟩
  cases c with
  | true => exact sb A nb S1 _ ex _ E hk he q2
  | false => exact hk _ _ q2
theorem rm_or (ha : RM X a ra) (hb : RM X (.BoolOp .Or (b :: rest) pos) rb) : RM X (.BoolOp .Or (a :: b :: rest) pos) (rOrV ra rb) := by
  obtain ⟨ta, pa, sa⟩ := ha; obtain ⟨tb, pb, sb⟩ := hb
  refine ⟨_, pm_or pa pb, fun A nb S k ex Q E hk he q => sa A nb S _ ex _ E (fun x S1 q1 => ?_) he q⟩
  obtain ⟨c, rfl, q2⟩ := blK_ok nb q1
  refine ⟨c, rfl, ?_⟩
  cases c with
  | true => exact hk _ _ q2
  | false => exact sb A nb S1 _ ex _ E hk he q2
theorem rm_not (ha : RM X a ra) : RM X (.UnaryOp .Not a pos) (rNotV ra) := by
  obtain ⟨ta, pa, sa⟩ := ha
  refine ⟨_, pm_not pa, fun A nb S k ex Q E hk he q => sa A nb S _ ex _ E (fun x S1 q1 => ?_) he q⟩
  obtain ⟨c, rfl, q2⟩ := blK_ok nb q1
  exact ⟨c, rfl, hk _ _ q2⟩
theorem rm_ifExp (hc : RMT X c rt) (ha : RM X a ra) (hb : RM X b rb) : RM X (.IfExp c a b pos) (rIf rt ra rb) := by
  obtain ⟨ta, pa, sa⟩ := ha; obtain ⟨tb, pb, sb⟩ := hb; obtain ⟨tc, pc, sc⟩ := hc
  refine ⟨_, pm_ifExp pc pa pb, fun A nb S k ex Q E hk he q => sc A nb S _ ex _ E (fun x S1 q1 => ?_) he q⟩
  cases x with
  | true => exact sa A nb S1 _ ex _ E hk he q1
  | false => exact sb A nb S1 _ ex _ E hk he q1
/-! what is looked into -/
def rkVar (i : Nat) : RG Pk := fun S k _ => match S.ρ[i]? with
  | some (.val d) => k (.val d) S
  | some (.own _) => k (.slot i) S
  | _ => .bad
def rkOf (r : RE) : RG Pk := fun S k e => r S (fun d S1 => k (.val d) S1) e
theorem rk_var {i : Nat} (h : PE X e (tVar i)) : RMK X e (rkVar i) := ⟨_, pk_var h, fun A nb S k ex Q E hk he q => by
  unfold rkVar at q
  unfold pkVar
  split at q
  · rename_i h1; (try simp only [h1]); exact hk _ _ q
  · rename_i h1; (try simp only [h1]); exact hk _ _ q
  · exact absurd q nb⟩
theorem rk_of (h : RM X e r) : RMK X e (rkOf r) := by
  obtain ⟨ta, pa, sa⟩ := h
  exact ⟨_, pk_of pa, fun A nb S k ex Q E hk he q => sa A nb S _ ex _ E (fun x S1 q1 => hk _ _ q1) he q⟩
def fixC (c : Con) (y : D) : Option D := match c with
  | .val x => match x with
    | .dct ks vs => if (keyK y).isSome = true then dget ks vs y else none
    | _ => fIx x y
  | .own (.lst xs) => match y with
    | .int i => atI xs i
    | _ => none
  | .own (.dct ks vs) => if (keyK y).isSome = true then dget ks vs y else none
  | _ => none
theorem ixC_sound {c : Con} {y z : D} {Q : D → Prop} (h : fixC c y = some z) (q : Q z) : ixC c y Q := by
  cases c with
  | val x =>
    cases x with
    | dct ks vs =>
      have h : (if (keyK y).isSome = true then dget ks vs y else none) = some z := h
      split at h
      · rename_i hc; exact ⟨hc, _, h, q⟩
      · cases h
    | tup xs => exact ix_sound (x := .tup xs) h q
    | lst xs => exact ix_sound (x := .lst xs) h q
    | str xs => exact ix_sound (x := .str xs) h q
    | _ => cases h
  | own o =>
    cases o with
    | lst xs =>
      cases y with
      | int i => exact ⟨i, z, rfl, h, q⟩
      | _ => cases h
    | dct ks vs =>
      have h : (if (keyK y).isSome = true then dget ks vs y else none) = some z := h
      split at h
      · rename_i hc; exact ⟨hc, _, h, q⟩
      · cases h
    | ins C ns ds => exact nomatch (show (none : Option D) = some z from h)
    | tbl t => exact nomatch (show (none : Option D) = some z from h)
  | bad => cases h
def rIxK (rk : RG Pk) (rb : RE) : RE := fun S k e => rk S (fun p S1 => rb S1 (fun y S2 => thnO (fixC (con S2 p) y) fun z => k z S2) e) e
theorem rm_ixK {rk : RG Pk} (hu : X.A.units + 1 < cLine) (ha : RMK X a rk) (hb : RM X b rb) (hpi : PlainIx b) : RM X (.Subscript a b pos) (rIxK rk rb) := by
  obtain ⟨ta, pa, sa⟩ := ha; obtain ⟨tb, pb, sb⟩ := hb
  exact ⟨_, pm_ixK hu pa pb hpi, fun A nb S k ex Q E hk he q => sa A nb S _ ex _ E (fun x S1 q1 => sb A nb S1 _ ex _ E (fun y S2 q2 => by
    obtain ⟨z, e1, e2⟩ := thnO_ok nb q2
    exact ixC_sound e1 (hk _ _ e2)) he q1) he q⟩
def flenC (c : Con) : Option D := match c with
  | .val x => fLen x
  | .own (.lst xs) => some (.int xs.length)
  | .own (.dct ks vs) => some (.int ks.length)
  | _ => none
theorem lenC_sound {c : Con} {z : D} {Q : D → Prop} (h : flenC c = some z) (q : Q z) : lenC c Q := by
  cases c with
  | val x => exact len_sound (x := x) h q
  | own o =>
    cases o with
    | lst xs => cases h; exact q
    | dct ks vs => cases h; exact q
    | ins C ns ds => exact nomatch (show (none : Option D) = some z from h)
    | tbl t => exact nomatch (show (none : Option D) = some z from h)
  | bad => cases h
def rLenK (rk : RG Pk) : RE := fun S k e => rk S (fun p S1 => thnO (flenC (con S1 p)) fun z => k z S1) e
theorem rm_lenK {rk : RG Pk} {p : Pos} (hg : Gl X "len") (hm : X.mg "len" = none) (ha : RMK X a rk) (he : starEach [a] X.env = (false, eval a X.env) :: starEach [] X.env := by rfl) (hpl : (backTo pos (starEach [] X.env)).any (·.1) = false := by rfl) :
    RM X (.Call (.Name "len" p) [a] [] pos) (rLenK rk) := by
  obtain ⟨ta, pa, sa⟩ := ha
  exact ⟨_, pm_lenK hg hm pa he hpl, fun A nb S k ex Q E hk he q => sa A nb S _ ex _ E (fun x S1 q1 => by
    obtain ⟨z, e1, e2⟩ := thnO_ok nb q1
    exact lenC_sound e1 (hk _ _ e2)) he q⟩
def rTabG (tab : List (Str × D)) (rb : RE) : RE := fun S k e => rb S (fun y S1 => match y with
  | .str z => thnO (tab.lookup z) fun d => k d S1
  | _ => .bad) e
theorem rm_tabG {x : Str} {p : Pos} {tab : List (Str × D)} (h : GT X.K X.w X.mg x tab) (hg : Gl X x) (hb : RM X b rb) (hpi : PlainIx b) (hd : (x == ("__debug__" : Str)) = false := by decide) : RM X (.Subscript (.Name x p) b pos) (rTabG tab rb) := by
  obtain ⟨tb, pb, sb⟩ := hb
  exact ⟨_, pm_tabG h hg pb hpi hd, fun A nb S k ex Q E hk he q => sb A nb S _ ex _ E (fun x S1 q1 => by
    split at q1
    · obtain ⟨z, e1, e2⟩ := thnO_ok nb q1
      exact ⟨_, _, rfl, e1, hk _ _ e2⟩
    · exact absurd q1 nb) he q⟩
def qPop (rk : RG Pk) : RE := fun S k e => rk S (fun p S1 => match con S1 p with
  | .own (.lst xs) => thnO (xs[xs.length - 1]?) fun d => k d (putC S1 p (.lst xs.dropLast))
  | _ => .bad) e
theorem rm_pop {rk : RG Pk} {o : Expr} (ho : RMK X o rk) (h : ∀ tk, PK X o tk → ∀ W, Takes X W → PE X e (tBM0 X.K "list" L2.rPop (lK X W tk))) : RM X e (qPop rk) := by
  obtain ⟨ta, pa, sa⟩ := ho
  exact ⟨_, pm_pop (h _ pa), fun A nb S k ex Q E hk he q => sa A nb S _ ex _ E (fun p S1 q1 => by
    split at q1
    · rename_i xs hc
      obtain ⟨d, e1, e2⟩ := thnO_ok nb q1
      exact ⟨xs, d, hc, e1, hk _ _ e2⟩
    · exact absurd q1 nb) he q⟩
def rGet2 (rk : RG Pk) (ry rz : RE) : RE := fun S k e => rk S (fun p S1 => if (dctC (con S1 p)).isSome = true then ry S1 (fun y S2 => rz S2 (fun z S3 => thnO (dctC (con S3 p)) fun kv => if (keyK y).isSome = true then k ((dget kv.1 kv.2 y).getD z) S3 else .bad) e) e else .bad) e
theorem rm_get2 {o e f : Expr} {apos cpos : Pos} {rk : RG Pk} {ry rz : RE} (hu : X.A.units + 1 < cLine) (ho : RMK X o rk) (hy : RM X e ry) (hz : RM X f rz) (m : M2 X o "get" apos e f cpos) : RM X (.Call (.Attribute o "get" apos) [e, f] [] cpos) (rGet2 rk ry rz) := by
  obtain ⟨ta, pa, sa⟩ := ho; obtain ⟨tb, pb, sb⟩ := hy; obtain ⟨tc, pc, sc⟩ := hz
  exact ⟨_, pm_get2 hu pa pb pc m, fun A nb S k ex Q E hk he q => sa A nb S _ ex _ E (fun p S1 q1 => by
    obtain ⟨h1, h2⟩ := bad_if nb q1
    exact ⟨h1, sb A nb S1 _ ex _ E (fun y S2 q2 => sc A nb S2 _ ex _ E (fun z S3 q3 => by
      obtain ⟨⟨ks, vs⟩, e1, e2⟩ := thnO_ok nb q3
      obtain ⟨h3, h4⟩ := bad_if nb e2
      exact ⟨ks, vs, e1, h3, hk _ _ h4⟩) he q2) he h2⟩) he q⟩
/-! own objects -/
def roLst (u : RA) : RG Own := fun S k e => u S (fun ds S1 => if ds.length ≤ sizeLine then k (.lst ds) S1 else .bad) e
def roDct : RG Own := fun S k _ => k (.dct [] []) S
theorem rmo_lst (h : RMA X es u) : RMO X (.List es pos) (roLst u) := by
  obtain ⟨ta, pa, sa⟩ := h
  exact ⟨_, pmo_lst pa, fun A nb S k ex Q E hk he q => sa A nb S _ ex _ E (fun x S1 q1 => by
    obtain ⟨h1, h2⟩ := bad_if nb q1
    exact ⟨h1, hk _ _ h2⟩) he q⟩
theorem rmo_dct : RMO X (.Dict [] [] pos) roDct := ⟨_, pmo_dct, fun A nb S k ex Q E hk he q => hk _ _ q⟩
def roCat (ra rb : RE) : RG Own := fun S k e => ra S (fun x S1 => rb S1 (fun y S2 => match x, y with
  | .lst xs, .lst ys => if xs.length + ys.length ≤ sizeLine then k (.lst (xs ++ ys)) S2 else .bad
  | _, _ => .bad) e) e
theorem rmo_cat (ha : RM X a ra) (hb : RM X b rb) : RMO X (.BinOp a .Add b pos) (roCat ra rb) := by
  obtain ⟨ta, pa, sa⟩ := ha; obtain ⟨tb, pb, sb⟩ := hb
  exact ⟨_, pmo_cat pa pb, fun A nb S k ex Q E hk he q => sa A nb S _ ex _ E (fun x S1 q1 => sb A nb S1 _ ex _ E (fun y S2 q2 => by
    split at q2
    · obtain ⟨h1, h2⟩ := bad_if nb q2
      exact ⟨_, _, rfl, rfl, h1, hk _ _ h2⟩
    · exact absurd q2 nb) he q1) he q⟩
def RMP (X : Cx) (pos : Pos) (keys : List (Option Expr)) (values : List Expr) (rs : RG (List (D × D))) : Prop := ∃ ts, PMP X pos keys values ts ∧ Snd (pPairs ts) rs
def rpNil : RG (List (D × D)) := fun S k _ => k [] S
def rpCons (ra rb : RE) (u : RG (List (D × D))) : RG (List (D × D)) := fun S k e => ra S (fun x S1 => rb S1 (fun y S2 => u S2 (fun ps S3 => k ((x, y) :: ps) S3) e) e) e
theorem rmp_nil : RMP X pos [] [] rpNil := ⟨[], pmp_nil, fun A nb S k ex Q E hk he q => hk _ _ q⟩
theorem rmp_cons {ks : List (Option Expr)} {vs : List Expr} {u : RG (List (D × D))} (ha : RM X a ra) (hb : RM X b rb) (hr : RMP X pos ks vs u) : RMP X pos (some a :: ks) (b :: vs) (rpCons ra rb u) := by
  obtain ⟨ta, pa, sa⟩ := ha; obtain ⟨tb, pb, sb⟩ := hb; obtain ⟨tc, pc, sc⟩ := hr
  exact ⟨_, pmp_cons pa pb pc, fun A nb S k ex Q E hk he q => sa A nb S _ ex _ E (fun x S1 q1 => sb A nb S1 _ ex _ E (fun y S2 q2 => sc A nb S2 _ ex _ E (fun z S3 q3 => hk _ _ q3) he q2) he q1) he q⟩
def roDisp (u : RG (List (D × D))) : RG Own := fun S k e => u S (fun ps S1 => if ps.length ≤ 15 ∧ (ps.all fun p => (keyK p.1).isSome) = true then k (.dct (mergeD ([], []) ps).1 (mergeD ([], []) ps).2) S1 else .bad) e
theorem rmo_disp {keys : List (Option Expr)} {values : List Expr} {u : RG (List (D × D))} (h : RMP X pos keys values u) (hall : keys.all (·.isSome) = true := by rfl) (hl : keys.length = values.length := by rfl) (h0 : keys ≠ [] := by exact fun h => nomatch h) (h15 : keys.length ≤ 15 := by decide) : RMO X (.Dict keys values pos) (roDisp u) := by
  obtain ⟨ta, pa, sa⟩ := h
  exact ⟨_, pmo_disp pa hall hl h0 h15, fun A nb S k ex Q E hk he q => sa A nb S _ ex _ E (fun x S1 q1 => by
    obtain ⟨⟨h1, h3⟩, h2⟩ := bad_if nb q1
    exact ⟨h1, by simpa using h3, hk _ _ h2⟩) he q⟩
def frzK (k : D → Sta → Out) (o : Own) (S : Sta) : Out := match o with
  | .lst xs => k (.lst xs) S
  | .dct ks vs => k (.dct ks vs) S
  | _ => .bad
def rFrzO (ro : RG Own) : RE := fun S k e => ro S (frzK k) e
theorem rm_frzO {ro : RG Own} (h : RMO X e ro) : RM X e (rFrzO ro) := by
  obtain ⟨ta, pa, sa⟩ := h
  refine ⟨_, pm_frzO pa, fun A nb S k ex Q E hk he q => sa A nb S _ ex _ E (fun o S1 q1 => ?_) he q⟩
  cases o with
  | lst xs => exact hk _ _ q1
  | dct ks vs => exact hk _ _ q1
  | ins C ns ds => exact absurd q1 nb
  | tbl t => exact absurd q1 nb
/-! what is walked -/
def rIter (r : RE) : RA := fun S k e => r S (fun d S1 => match d with
  | .lst xs => k xs S1
  | .tup xs => k xs S1
  | _ => .bad) e
variable {tg : Expr}
theorem rmi_seq (h : RM X e r) : RMI X tg e (rIter r) := by
  obtain ⟨ta, pa, sa⟩ := h
  refine ⟨_, pmi_seq pa, fun A nb S k ex Q E hk he q => sa A nb S _ ex _ E (fun d S1 q1 => ?_) he q⟩
  split at q1
  · exact hk _ _ q1
  · exact hk _ _ q1
  · exact absurd q1 nb
def bnd62 (j : Int) : Bool := decide (-(2 ^ 62) ≤ j) && decide (j < 2 ^ 62)
def rRng1 (u : RA) : RA := fun S k e => u S (fun ds S1 => match ds with
  | [.int j] => if bnd62 j = true then k (rangeD 0 j.toNat) S1 else .bad
  | _ => .bad) e
def rRng2 (u : RA) : RA := fun S k e => u S (fun ds S1 => match ds with
  | [.int i, .int j] => if bnd62 i = true ∧ bnd62 j = true then k (rangeD i (j - i).toNat) S1 else .bad
  | _ => .bad) e
theorem bnd62_ok {j : Int} (h : bnd62 j = true) : -(2 ^ 62) ≤ j ∧ j < 2 ^ 62 := by
  simpa only [bnd62, Bool.and_eq_true, decide_eq_true_eq] using h
theorem rmi_range1 {p pos : Pos} (hg : Gl X "range") (hm : X.mg "range" = none) (ha : RMA X [a] u) (hs : starEach [a] X.env = [(false, eval a X.env)] := by rfl) : RMI X tg (.Call (.Name "range" p) [a] [] pos) (rRng1 u) := by
  obtain ⟨ta, pa, sa⟩ := ha
  refine ⟨_, pmi_range1 hg hm pa hs, fun A nb S k ex Q E hk he q => sa A nb S _ ex _ E (fun d S1 q1 => ?_) he q⟩
  split at q1
  · obtain ⟨h1, h2⟩ := bad_if nb q1
    exact ⟨_, rfl, bnd62_ok h1, hk _ _ h2⟩
  · exact absurd q1 nb
theorem rmi_range2 {p pos : Pos} (hg : Gl X "range") (hm : X.mg "range" = none) (ha : RMA X [a, b] u) (hs : starEach [a, b] X.env = [(false, eval a X.env), (false, eval b X.env)] := by rfl) (hs2 : starEach [b] X.env = [(false, eval b X.env)] := by rfl) : RMI X tg (.Call (.Name "range" p) [a, b] [] pos) (rRng2 u) := by
  obtain ⟨ta, pa, sa⟩ := ha
  refine ⟨_, pmi_range2 hg hm pa hs hs2, fun A nb S k ex Q E hk he q => sa A nb S _ ex _ E (fun d S1 q1 => ?_) he q⟩
  split at q1
  · obtain ⟨h1, h2⟩ := bad_if nb q1
    obtain ⟨h3, h4⟩ := bnd62_ok h1.1
    obtain ⟨h5, h6⟩ := bnd62_ok h1.2
    exact ⟨_, _, rfl, ⟨h3, h4, h5, h6⟩, hk _ _ h2⟩
  · exact absurd q1 nb
end
end Pl
set_option Elab.async false
set_option linter.all false
set_option maxRecDepth 100000
set_option maxHeartbeats 4000000
/-! RlS: runs of statements, defs -/
namespace Pl
open PySem PySem.Spec L2
open PyProof.Rows (envOfC)
/-! ### the weakest first reading of a run -/
def den {α : Type} (r : RG α) : Tg α := fun S Q E => ∃ (A : Out → Prop) (k : α → Sta → Out) (e : RX), ¬ A .bad ∧ (∀ a S1, A (k a S1) → Q a S1) ∧ (∀ x S1, A (e x S1) → E x S1) ∧ A (r S k e)
theorem snd_den {α : Type} (r : RG α) : Snd (den r) r := fun A nb S k e Q E hk he q => ⟨A, k, e, nb, hk, he, q⟩
theorem den_of {α : Type} {t : Tg α} {r : RG α} (h : Snd t r) : ∀ S Q E, den r S Q E → t S Q E := fun S Q E ⟨A, k, e, nb, hk, he, q⟩ => h A nb S k e Q E hk he q
theorem lE_wk {X : Cx} {W : WX} {t t' : PTE} (h : ∀ S Q E, t' S Q E → t S Q E) : ∀ σ H Q, lE X W t' σ H Q → lE X W t σ H Q := fun σ H Q ⟨S, Q', E', a, b, c⟩ => ⟨S, Q', E', a, h _ _ _ b, c⟩
theorem lT_wk {X : Cx} {W : WX} {t t' : PTT} (h : ∀ S Q E, t' S Q E → t S Q E) : ∀ σ H Q, lT X W t' σ H Q → lT X W t σ H Q := fun σ H Q ⟨S, Q', E', a, b, c⟩ => ⟨S, Q', E', a, h _ _ _ b, c⟩
theorem RM.den {X : Cx} {e : Expr} {r : RE} (h : RM X e r) : PM X e (den r) := by
  obtain ⟨t, p, s⟩ := h
  exact fun W tk => weakE (p W tk) (lE_wk (den_of s))
theorem weakTs {X : Cx} {e : List Expr} {t t' : TT} (h : PTs X e t) (w : ∀ σ H Q, t' σ H Q → t σ H Q) : PTs X e t' := ⟨fun pins s σ H Q I q => h.run pins s σ H Q I (w _ _ _ q)⟩
theorem RMTs.den {X : Cx} {e : List Expr} {r : RT} (h : RMTs X e r) : PMTs X e (den r) := by
  obtain ⟨t, p, s⟩ := h
  exact fun W tk => weakTs (p W tk) (lT_wk (den_of s))
/-! ### targets -/
abbrev RTg := D → Sta → (Sta → Out) → Out
abbrev RTgs := List D → Sta → (Sta → Out) → Out
def SndG {β : Type} (t : β → Sta → (Sta → Prop) → Prop) (r : β → Sta → (Sta → Out) → Out) : Prop := ∀ (A : Out → Prop), ¬ A .bad → ∀ d S k (Q : Sta → Prop), (∀ S1, A (k S1) → Q S1) → A (r d S k) → t d S Q
def RMG (X : Cx) (vs : List Nat) (e : Expr) (r : RTg) : Prop := ∃ t, PMG X vs e t ∧ SndG t r
def RMGs (X : Cx) (vs : List Nat) (e : List Expr) (r : RTgs) : Prop := ∃ t, PMGs X vs e t ∧ SndG t r
def denG {β : Type} (r : β → Sta → (Sta → Out) → Out) : β → Sta → (Sta → Prop) → Prop := fun d S Q => ∃ (A : Out → Prop) (k : Sta → Out), ¬ A .bad ∧ (∀ S1, A (k S1) → Q S1) ∧ A (r d S k)
theorem snd_denG {β : Type} (r : β → Sta → (Sta → Out) → Out) : SndG (denG r) r := fun A nb d S k Q hk q => ⟨A, k, nb, hk, q⟩
theorem RMG.den {X : Cx} {vs : List Nat} {e : Expr} {r : RTg} (h : RMG X vs e r) : PMG X vs e (denG r) := by
  obtain ⟨t, p, s⟩ := h
  exact weakG p fun v σ H Q ⟨d, S, Q', a, b, ⟨A, k, nb, hk, q⟩, c⟩ => ⟨d, S, Q', a, b, s A nb d S k Q' hk q, c⟩
def rgName (i : Nat) : RTg := fun d S k => k ⟨S.ρ.set i (.val d), S.W⟩
def rgNil : RTgs := fun ds S k => match ds with
  | [] => k S
  | _ => .bad
def rgCons (t : RTg) (u : RTgs) : RTgs := fun ds S k => match ds with
  | d :: r => t d S fun S1 => u r S1 k
  | [] => .bad
def rgTup (n : Nat) (t : RTgs) : RTg := fun d S k => match d with
  | .tup ds => if ds.length = n then t ds S k else .bad
  | _ => .bad
section
variable {X : Cx} {vs : List Nat} {e : Expr} {es : List Expr} {pos : Pos}
theorem rmg_of {i : Nat} (h : PG X e (gName i)) (hi : i ∈ vs := by decide) : RMG X vs e (rgName i) := ⟨_, pmg_of h hi, fun A nb d S k Q hk q => hk _ q⟩
theorem rmgs_nil : RMGs X vs [] rgNil := ⟨_, pmgs_nil, fun A nb d S k Q hk q => by
  unfold rgNil at q
  split at q
  · exact ⟨rfl, hk _ q⟩
  · exact absurd q nb⟩
theorem rmgs_cons {r : RTg} {u : RTgs} (h1 : RMG X vs e r) (h2 : RMGs X vs es u) (hs : (assignEach (e :: es) X.env).map (·.2) = assign e X.env :: (assignEach es X.env).map (·.2) := by rfl) : RMGs X vs (e :: es) (rgCons r u) := by
  obtain ⟨ta, pa, sa⟩ := h1; obtain ⟨tb, pb, sb⟩ := h2
  refine ⟨_, pmgs_cons pa pb hs, fun A nb d S k Q hk q => ?_⟩
  unfold rgCons at q
  split at q
  · exact ⟨_, _, rfl, sa A nb _ _ _ _ (fun S1 q1 => sb A nb _ _ _ _ hk q1) q⟩
  · exact absurd q nb
theorem rmg_tup {n k : Nat} {u : RTgs} (hc : X.calm = true) (h : RMGs X vs es u) (hn : (assignEach es X.env).length = n := by rfl) (hst : (assignEach es X.env).findIdx? (·.1) = none := by rfl) : RMG X vs (.Tuple es k pos) (rgTup n u) := by
  obtain ⟨ta, pa, sa⟩ := h
  refine ⟨_, pmg_tup hc pa hn hst, fun A nb d S k Q hk q => ?_⟩
  unfold rgTup at q
  split at q
  · obtain ⟨h1, h2⟩ := bad_if nb q
    exact ⟨_, rfl, h1, sa A nb _ _ _ _ hk h2⟩
  · exact absurd q nb
end
/-! ### blocks -/
def rNext : RS := fun K S => K.nx S
def rSeq (t u : RS) : RS := fun K S => t { K with nx := u K } S
def rBreak : RS := fun K S => K.bk S
def rCont : RS := fun K S => K.ct S
def rDrop (r : RE) : RS := fun K S => r S (fun _ S1 => K.nx S1) K.ex
def rRet (r : RE) : RS := fun K S => r S K.rt K.ex
def rRetN : RS := fun K S => K.rt .non S
def rIfS (c : RT) (t u : RS) : RS := fun K S => c S (fun b S1 => if b = true then t K S1 else u K S1) K.ex
def rAsg (r : RE) (g : RTg) : RS := fun K S => r S (fun d S1 => g d S1 K.nx) K.ex
def rSet (i : Nat) (r : RE) : RS := fun K S => r S (fun d S1 => K.nx ⟨S1.ρ.set i (.val d), S1.W⟩) K.ex
def rPar (i j : Nat) (t : RA) : RS := fun K S => t S (fun ds S1 => match ds with
  | [x, y] => K.nx ⟨(S1.ρ.set i (.val x)).set j (.val y), S1.W⟩
  | _ => .bad) K.ex
def rSetO (i : Nat) (ro : RG Own) : RS := fun K S => ro S (fun o S1 => K.nx ⟨S1.ρ.set i (.own o), S1.W⟩) K.ex
def rAppend (rk : RG Pk) (re : RE) : RS := fun K S => rk S (fun p S1 => match con S1 p with
  | .own (.lst _) => re S1 (fun d S2 => match con S2 p with
    | .own (.lst xs) => if xs.length < sizeLine then K.nx (putC S2 p (.lst (xs ++ [d]))) else .bad
    | _ => .bad) K.ex
  | _ => .bad) K.ex
def fsetC (c : Con) (i d : D) : Option Own := match c with
  | .own (.lst xs) => match i with
    | .int k => (ixN xs.length k).map fun j => .lst (xs.set j d)
    | _ => none
  | .own (.dct ks vs) => if (keyK i).isSome = true ∧ ks.length < sizeLine then some (.dct (dput ks vs i d).1 (dput ks vs i d).2) else none
  | _ => none
def rStore (tv : RE) (tk : RG Pk) (ti : RE) : RS := fun K S => tv S (fun d S1 => tk S1 (fun p S2 => ti S2 (fun i S3 => thnO (fsetC (con S3 p) i d) fun o => K.nx (putC S3 p o)) K.ex) K.ex) K.ex
def rRaise (x : Exn) : RS := fun K S => K.ex x S
def forR (g : RTg) (tb : RS) (K : Ks) : List D → Sta → Out
  | [], S => K.nx S
  | d :: r, S => g d S fun S2 => tb { K with nx := forR g tb K r, ct := forR g tb K r, bk := K.nx } S2
def rFor (ti : RA) (g : RTg) (tb : RS) : RS := fun K S => ti S (fun ds S1 => forR g tb K ds S1) K.ex
def whR (c : RT) (tb : RS) (K : Ks) : Nat → Sta → Out
  | 0, _ => .bad
  | n + 1, S => c S (fun b S1 => if b = true then tb { K with nx := whR c tb K n, ct := whR c tb K n, bk := K.nx } S1 else K.nx S1) K.ex
def rWhile (n : Nat) (c : RT) (tb : RS) : RS := fun K S => whR c tb K n S
section
variable {X : Cx} {st : Stmt} {rest : List Stmt} {e : Expr} {pos : Pos} {t u : RS} {r : RE}
theorem Acc.nxt {A : Out → Prop} {K : Ks} {P : PEnds} (h : Acc A K P) {n : Sta → Out} {N : Sta → Prop} (hn : ∀ S, A (n S) → N S) : Acc A { K with nx := n } { P with nx := N } := ⟨hn, h.rt, h.bk, h.ct, h.ex⟩
theorem Acc.lp {A : Out → Prop} {K : Ks} {P : PEnds} (h : Acc A K P) {n c : Sta → Out} {N C : Sta → Prop} (hn : ∀ S, A (n S) → N S) (hc : ∀ S, A (c S) → C S) : Acc A { K with nx := n, ct := c, bk := K.nx } { P with nx := N, ct := C, bk := P.nx } := ⟨hn, h.rt, h.nx, hc, h.ex⟩
theorem rmss_nil : RMSs X [] rNext := ⟨_, pmss_nil, fun A nb K P S a q => a.nx _ q⟩
theorem rmss_cons (h1 : RMS X st t) (h2 : RMSs X rest u) : RMSs X (st :: rest) (rSeq t u) := by
  obtain ⟨ta, pa, sa⟩ := h1; obtain ⟨tb, pb, sb⟩ := h2
  exact ⟨_, pmss_cons pa pb, fun A nb K P S a q => sa A nb _ _ _ (a.nxt fun S1 q1 => sb A nb _ _ _ a q1) q⟩
theorem rmss_one (h : RMS X st t) : RMSs X [st] t := by
  obtain ⟨ta, pa, sa⟩ := h; exact ⟨_, pmss_one pa, sa⟩
theorem rms_pass : RMS X (.Pass pos) rNext := ⟨_, pms_pass, fun A nb K P S a q => a.nx _ q⟩
theorem rms_break : RMS X (.Break pos) rBreak := ⟨_, pms_break, fun A nb K P S a q => a.bk _ q⟩
theorem rms_continue : RMS X (.Continue pos) rCont := ⟨_, pms_continue, fun A nb K P S a q => a.ct _ q⟩
theorem rms_expr (h : RM X e r) (hs : swapsWith e none pos.line X.env = pure false := by rfl) : RMS X (.Expr e pos) (rDrop r) := by
  obtain ⟨ta, pa, sa⟩ := h
  exact ⟨_, pms_expr pa hs, fun A nb K P S a q => sa A nb S _ _ _ _ (fun d S1 q1 => a.nx _ q1) a.ex q⟩
theorem rms_ret (h : RM X e r) : RMS X (.Return (some e) pos) (rRet r) := by
  obtain ⟨ta, pa, sa⟩ := h
  exact ⟨_, pms_ret pa, fun A nb K P S a q => sa A nb S _ _ _ _ a.rt a.ex q⟩
theorem rms_retN : RMS X (.Return none pos) rRetN := ⟨_, pms_retN, fun A nb K P S a q => a.rt _ _ q⟩
theorem rms_if {c : Expr} {a b : List Stmt} {rc : RT} (hc : RMT X c rc) (ha : RMSs X a t) (hb : RMSs X b u) : RMS X (.If c a b pos) (rIfS rc t u) := by
  obtain ⟨ta, pa, sa⟩ := ha; obtain ⟨tb, pb, sb⟩ := hb; obtain ⟨tc, pc, sc⟩ := hc
  refine ⟨_, pms_if pc pa pb, fun A nb K P S a q => sc A nb S _ _ _ _ (fun d S1 q1 => ?_) a.ex q⟩
  cases d with
  | true => exact sa A nb _ _ _ a q1
  | false => exact sb A nb _ _ _ a q1
theorem rms_asg {vs : List Nat} {tg : Expr} {g : RTg} (he : RM X e r) (hg : RMG X vs tg g) (hs : swapsWithSole [tg] e pos.line X.env = pure false := by rfl) (hw : swappedStores [tg] e X.env = pure none := by rfl)
    (h1 : (assignEach [tg] X.env).map (·.2) = [assign tg X.env] := by rfl) : RMS X (.Assign [tg] e pos) (rAsg r g) := by
  obtain ⟨ta, pa, sa⟩ := he; obtain ⟨tb, pb, sb⟩ := hg
  exact ⟨_, pms_asg pa pb hs hw h1, fun A nb K P S a q => sa A nb S _ _ _ _ (fun d S1 q1 => sb A nb _ _ _ _ a.nx q1) a.ex q⟩
theorem rms_set {i : Nat} (h : RM X e r) (hh : ∀ te, PM X e te → ∀ W, Takes X W → L2.PS X st (tAsg (lE X W te) (gName i))) : RMS X st (rSet i r) := by
  obtain ⟨ta, pa, sa⟩ := h
  exact ⟨_, pms_set (hh _ pa), fun A nb K P S a q => sa A nb S _ _ _ _ (fun d S1 q1 => a.nx _ q1) a.ex q⟩
theorem rms_par {i j : Nat} {es : List Expr} {ra : RA} (h : RMA X es ra) (hh : ∀ te, PMA X es te → ∀ W, Takes X W → L2.PS X st (tPar i j (lA X W te))) : RMS X st (rPar i j ra) := by
  obtain ⟨ta, pa, sa⟩ := h
  refine ⟨_, pms_par (hh _ pa), fun A nb K P S a q => sa A nb S _ _ _ _ (fun d S1 q1 => ?_) a.ex q⟩
  split at q1
  · exact ⟨_, _, rfl, a.nx _ q1⟩
  · exact absurd q1 nb
theorem rms_setO {i : Nat} {ro : RG Own} (h : RMO X e ro) (hh : ∀ te, PMO X e te → ∀ W, Takes X W → L2.PS X st (tAsg (lF X W te) (gName i))) : RMS X st (rSetO i ro) := by
  obtain ⟨ta, pa, sa⟩ := h
  exact ⟨_, pms_setO (hh _ pa), fun A nb K P S a q => sa A nb S _ _ _ _ (fun d S1 q1 => a.nx _ q1) a.ex q⟩
theorem rms_append {o : Expr} {rk : RG Pk} (hk : RMK X o rk) (he : RM X e r) (hh : ∀ tk te, PK X o tk → PM X e te → ∀ W, Takes X W → L2.PS X st (tDrop (tBM X.K "list" L2.rAppend (lK X W tk) (tCons (lE X W te) tNil)))) : RMS X st (rAppend rk r) := by
  obtain ⟨ta, pa, sa⟩ := hk; obtain ⟨tb, pb, sb⟩ := he
  refine ⟨_, pms_append (hh _ _ pa pb), fun A nb K P S a q => sa A nb S _ _ _ _ (fun p S1 q1 => ?_) a.ex q⟩
  split at q1
  · rename_i xs hc
    refine ⟨⟨xs, hc⟩, sb A nb S1 _ _ _ _ (fun d S2 q2 => ?_) a.ex q1⟩
    split at q2
    · rename_i ys hc2
      obtain ⟨h1, h2⟩ := bad_if nb q2
      exact ⟨ys, hc2, h1, a.nx _ h2⟩
    · exact absurd q2 nb
  · exact absurd q1 nb
theorem setC_sound {c : Con} {i d : D} {o : Own} {Q : Own → Prop} (h : fsetC c i d = some o) (q : Q o) : setC c i d Q := by
  cases c with
  | val x => cases h
  | bad => cases h
  | own w =>
    cases w with
    | lst xs =>
      cases i with
      | int k =>
        obtain ⟨j, h1, rfl⟩ := Option.map_eq_some_iff.mp (show (ixN xs.length k).map (fun j => Own.lst (xs.set j d)) = some o from h)
        exact ⟨k, j, rfl, h1, q⟩
      | _ => cases h
    | dct ks vs =>
      obtain ⟨hc, rfl⟩ := of_some (show (if (keyK i).isSome = true ∧ ks.length < sizeLine then some (Own.dct (dput ks vs i d).1 (dput ks vs i d).2) else none) = some o from h)
      exact ⟨hc.1, hc.2, q⟩
    | ins C ns ds => exact nomatch (show (none : Option Own) = some o from h)
    | tbl t => exact nomatch (show (none : Option Own) = some o from h)
theorem rms_store {a b : Expr} {rk : RG Pk} {ri : RE} (hv : RM X e r) (hk : RMK X a rk) (hi : RM X b ri) (hh : ∀ tv tk ti, PM X e tv → PK X a tk → PM X b ti → ∀ W, Takes X W → L2.PS X st (tAsg (lE X W tv) (gSub (lK X W tk) (lE X W ti) fun o i v H Q => rSetL o i v H Q ∨ rSetD o i v H Q))) : RMS X st (rStore r rk ri) := by
  obtain ⟨ta, pa, sa⟩ := hv; obtain ⟨tb, pb, sb⟩ := hk; obtain ⟨tc, pc, sc⟩ := hi
  refine ⟨_, pms_store (hh _ _ _ pa pb pc), fun A nb K P S a q => sa A nb S _ _ _ _ (fun d S1 q1 => sb A nb S1 _ _ _ _ (fun p S2 q2 => sc A nb S2 _ _ _ _ (fun i S3 q3 => ?_) a.ex q2) a.ex q1) a.ex q⟩
  obtain ⟨z, e1, e2⟩ := thnO_ok nb q3
  exact setC_sound e1 (a.nx _ e2)
theorem rms_raiseOwn {x m : Str} {j : Nat} {C : Addr} {p p2 pos' : Pos} (hc : X.calm = true) (T : ExC X.K X.mg x C) (hg : Gl X x) (hdb : (x == ("__debug__" : Str)) = false := by decide) : RMS X (.Raise (some (.Call (.Name x p) [.Constant (.str m) j p2] [] pos)) none pos') (rRaise ⟨.ref C, none⟩) :=
  ⟨_, pms_raiseOwn hc T hg hdb, fun A nb K P S a q => a.ex _ _ q⟩
theorem for_snd {g : RTg} {tb : RS} {g' : PTG} {t' : PTS} (hg : SndG g' g) (hb : SndS t' tb) {A : Out → Prop} (nb : ¬ A .bad) {K : Ks} {P : PEnds} (a : Acc A K P) : ∀ ds S, A (forR g tb K ds S) → forW g' t' P ds S
  | [], S, q => a.nx _ q
  | d :: r, S, q => hg A nb _ _ _ _ (fun S2 q2 => hb A nb _ _ _ (a.lp (fun S3 q3 => for_snd hg hb nb a r S3 q3) (fun S3 q3 => for_snd hg hb nb a r S3 q3)) q2) q
theorem rms_for {vs : List Nat} {tg iter : Expr} {body : List Stmt} {ti : RA} {g : RTg} {tb : RS} (hp : PassesOwn (model X.prog X.w) X.A X.env X.xe) (hc : X.calm = true) (hi : RMI X tg iter ti) (hg : RMG X vs tg g) (hb : RMSs X body tb)
    (hs : ∀ x, foldedSetIterable iter X.env x = pure x := by intro _; rfl) : RMS X (.For tg iter body [] pos) (rFor ti g tb) := by
  obtain ⟨ta, pa, sa⟩ := hi; obtain ⟨tg', pg', sg⟩ := hg; obtain ⟨tb', pb, sb⟩ := hb
  exact ⟨_, pms_for hp hc pa pg' pb hs, fun A nb K P S a q => sa A nb S _ _ _ _ (fun ds S1 q1 => for_snd sg sb nb a ds S1 q1) a.ex q⟩
theorem rms_while (n : Nat) {c : Expr} {body : List Stmt} {rc : RT} {tb : RS} (hp : PassesOwn (model X.prog X.w) X.A X.env X.xe) (hc : RMT X c rc) (hb : RMSs X body tb) : RMS X (.While c body [] pos) (rWhile n rc tb) := by
  obtain ⟨tc, pc, sc⟩ := hc; obtain ⟨tb', pb, sb⟩ := hb
  refine ⟨_, pms_while hp pc pb, fun A nb K P S a q => ⟨fun m S => A (whR rc tb K m S), ⟨n, q⟩, fun m S h => ?_⟩⟩
  cases m with
  | zero => exact absurd h nb
  | succ m =>
    refine sc A nb S _ _ _ _ (fun b S1 q1 => ?_) a.ex h
    cases b with
    | true => exact sb A nb _ _ _ (a.lp (fun S3 q3 => ⟨m, Nat.lt_succ_self _, q3⟩) (fun S3 q3 => ⟨m, Nat.lt_succ_self _, q3⟩)) q1
    | false => exact a.nx _ q1
/-! ### comprehensions -/
def badX : RX := fun _ _ => .bad
def lcR (g : RTg) (tt : RT) (te : RE) (vs : List Nat) (k : D → Sta → Out) : List D → List D → Sta → Out
  | [], acc, S => k (.lst acc) S
  | d :: r, acc, S => g d S fun S2 => tt S2 (fun b S3 => if b = true then te S3 (fun y S4 => if acc.length < sizeLine then lcR g tt te vs k r (acc ++ [y]) (wipS S4 vs) else .bad) badX else lcR g tt te vs k r acc (wipS S3 vs)) badX
def rLc (ti : RA) (g : RTg) (tt : RT) (te : RE) (vs : List Nat) : RE := fun S k e => ti S (fun ds S1 => lcR g tt te vs k ds [] (wipS S1 vs)) e
def rYes : RT := fun S k _ => k true S
theorem rmts_nil : RMTs X [] rYes := ⟨_, pmts_nil, fun A nb S k e Q E hk he q => hk _ _ q⟩
theorem rmts_one {c : Expr} {t : RT} (h : RMT X c t) : RMTs X [c] t := by
  obtain ⟨ta, pa, sa⟩ := h; exact ⟨_, pmts_one pa, sa⟩
theorem lc_snd {g : RTg} {tt : RT} {te : RE} {vs : List Nat} {A : Out → Prop} (nb : ¬ A .bad) {k : D → Sta → Out} {Q : PQ} (hk : ∀ d S, A (k d S) → Q d S) : ∀ ds acc S, A (lcR g tt te vs k ds acc S) → lcW (denG g) (den tt) (den te) vs Q ds acc S
  | [], acc, S, q => hk _ _ q
  | d :: r, acc, S, q => snd_denG g A nb _ _ _ _ (fun S2 q2 => snd_den tt A nb _ _ _ _ _ (fun b S3 q3 => by
      cases b with
      | true => exact snd_den te A nb _ _ _ _ _ (fun y S4 q4 => by
          obtain ⟨h1, h2⟩ := bad_if nb q4
          exact ⟨h1, lc_snd nb hk r _ _ h2⟩) (fun x S4 q4 => absurd q4 nb) q3
      | false => exact lc_snd nb hk r _ _ q3) (fun x S4 q4 => absurd q4 nb) q2) q
theorem snd_lc {ti : RA} {ti' : PTI} (h : Snd ti' ti) (g : RTg) (tt : RT) (te : RE) (vs : List Nat) : Snd (pLc ti' (denG g) (den tt) (den te) vs) (rLc ti g tt te vs) := fun A nb S k e Q E hk he q => h A nb S _ _ _ _ (fun ds S1 q1 => lc_snd nb hk ds _ _ q1) he q
variable {elt tg iter : Expr} {ifs : List Expr} {scope : Scope} {own : List (Str × Nat)} {ti : RA} {g : RTg} {tt : RT} {te : RE}
theorem rm_lc (hc : X.calm = true) (hN : X.N.Nodup) (hi : RMI X tg iter ti) (ok : BlkOk X.N X.env.scope scope own)
    (hg : ∀ (s : Shared) (H : Hp) (C : Addr) (cl : List (Str × Addr)) (fp : List Addr), RMG (X.blk s H scope (compEnvC scope cl C X.env) fp) (own.map (·.2)) tg g)
    (ht : ∀ (s : Shared) (H : Hp) (C : Addr) (cl : List (Str × Addr)) (fp : List Addr), RMTs (X.blk s H scope (compEnvC scope cl C X.env) fp) ifs tt)
    (he : ∀ (s : Shared) (H : Hp) (C : Addr) (cl : List (Str × Addr)) (fp : List Addr), RM (X.blk s H scope (compEnvC scope cl C X.env) fp) elt te) (hs : ∀ x, foldedSetIterable iter X.env x = pure x := by intro _; rfl) :
    RM X (.ListComp elt [⟨tg, iter, ifs, 0⟩] scope pos) (rLc ti g tt te (own.map (·.2))) := by
  obtain ⟨ti', pi, si⟩ := hi
  exact ⟨_, pm_lc hc hN pi ok (fun s H C cl fp => (hg s H C cl fp).den) (fun s H C cl fp => (ht s H C cl fp).den) (fun s H C cl fp => (he s H C cl fp).den) hs, snd_lc si g tt te _⟩
theorem rms_setLc {i : Nat} {y : Str} {py spos : Pos} (hc : X.calm = true) (hN : X.N.Nodup) (hy : X.N[i]? = some y) (hyl : X.env.scope.names.lookup y = some .local)
    (hsw : swapsWith (.ListComp elt [⟨tg, iter, ifs, 0⟩] scope pos) (some (.Name y py)) spos.line X.env = pure true) (hi : RMI X tg iter ti) (ok : BlkOk X.N X.env.scope scope own)
    (hg : ∀ (s : Shared) (H : Hp) (C : Addr) (cl : List (Str × Addr)) (fp : List Addr), RMG (X.blk s H scope (compEnvC scope cl C X.env) fp) (own.map (·.2)) tg g)
    (ht : ∀ (s : Shared) (H : Hp) (C : Addr) (cl : List (Str × Addr)) (fp : List Addr), RMTs (X.blk s H scope (compEnvC scope cl C X.env) fp) ifs tt)
    (he : ∀ (s : Shared) (H : Hp) (C : Addr) (cl : List (Str × Addr)) (fp : List Addr), RM (X.blk s H scope (compEnvC scope cl C X.env) fp) elt te) (hs : ∀ x, foldedSetIterable iter X.env x = pure x := by intro _; rfl) :
    RMS X (.Assign [.Name y py] (.ListComp elt [⟨tg, iter, ifs, 0⟩] scope pos) spos) (rSet i (rLc ti g tt te (own.map (·.2)))) := by
  obtain ⟨ti', pi, si⟩ := hi
  exact ⟨_, pms_setLc hc hN hy hyl hsw pi ok (fun s H C cl fp => (hg s H C cl fp).den) (fun s H C cl fp => (ht s H C cl fp).den) (fun s H C cl fp => (he s H C cl fp).den) hs, fun A nb K P S a q => snd_lc si g tt te _ A nb S _ _ _ _ (fun d S1 q1 => a.nx _ q1) a.ex q⟩
end
/-! ### defs and their calls -/
abbrev RFn := List D → Wt → Out
/-- the promise of a run -/
def φR (F : RFn) : PFn := fun ds W Q E => match F ds W with
  | .rt d W' => Q d W'
  | .ex x W' => E x W'
  | .bad => False
theorem φR_rt {F : RFn} {ds : List D} {W W' : Wt} {d : D} {Q : D → Wt → Prop} {E : Exn → Wt → Prop} (h : F ds W = .rt d W') : φR F ds W Q E = Q d W' := by unfold φR; rw [h]
theorem φR_ex {F : RFn} {ds : List D} {W W' : Wt} {x : Exn} {Q : D → Wt → Prop} {E : Exn → Wt → Prop} (h : F ds W = .ex x W') : φR F ds W Q E = E x W' := by unfold φR; rw [h]
def K0 : Ks := { nx := fun S => .rt .non S.W, rt := fun d S => .rt d S.W, bk := fun _ => .bad, ct := fun _ => .bad, ex := fun x S => .ex x S.W }
/-- a def's run: so many slots, its body -/
def runD (n : Nat) (r : RS) : RFn := fun ds W => r K0 ⟨start0 n ds, W⟩
def outK (o : Out) (k : D → Wt → Out) (e : Exn → Wt → Out) : Out := match o with
  | .rt d W => k d W
  | .ex x W => e x W
  | .bad => .bad
def rCall (n : Nat) (F : RFn) (t : RA) : RE := fun S k e => t S (fun ds S1 => if ds.length = n then outK (F ds S1.W) (fun d W' => k d ⟨S1.ρ, W'⟩) (fun x W' => e x ⟨S1.ρ, W'⟩) else .bad) e
section
variable {P : Program} {w : World} {K : PySem.W.Frag} {mg : Str → Option Value} {base : Heap}
theorem callR_of {x : Str} {st : Stmt} {N ps : List Str} {k : Nat} {r : RS} (T : TopD K mg x ps st) (S : FnScope N ps (defScope st))
    (hbody : ∀ (f : Addr) (cdv : Value) (A : Around) (outer : List Env) (s : Shared) (H : Hp) (E : XK), Room k (A.deeper (envOfC x (defScope st) s.heap.objs.size f cdv)) →
      RMSs (cxOf (L2.CX P w) P w K mg base N x (defScope st) f cdv A outer s H E) (defBody st) r) :
    CallF P w K mg base x ps.length (k + 1) (φR (runD N.length r)) := by
  refine call_of T S fun f cdv A outer s H E hr => ?_
  obtain ⟨t, p, sn⟩ := hbody f cdv A outer s H E hr
  refine ⟨t, p, fun ds Wo Q E' hl h => ?_⟩
  refine sn (fun o => match o with | .rt d W' => Q d W' | .ex x W' => E' x W' | .bad => False) (fun z => z) K0 _ _ ⟨fun S h => h, fun d S h => h, fun S h => h, fun S h => h, fun x S h => h⟩ ?_
  exact h
/-- a def that calls itself: by its fuel -/
theorem rec_of {x : Str} {n b : Nat} {F : Nat → RFn} {ps : List Str} {st : Stmt} (T : TopD K mg x ps st) (hn : ps.length = n) (h0 : ∀ ds W, F 0 ds W = .bad)
    (step : ∀ m k, b ≤ k → CallF P w K mg base x n k (φR (F m)) → CallF P w K mg base x n (k + 1) (φR (F (m + 1)))) : ∀ m, CallF P w K mg base x n (b + m) (φR (F m))
  | 0 => low_none T hn fun ds W Q E h => by
    unfold φR at h
    rw [h0] at h
    exact h
  | m + 1 => step m (b + m) (Nat.le_add_right _ _) (rec_of T hn h0 step m)
theorem CallF.r {x : Str} {n k : Nat} {F G : RFn} (c : CallF P w K mg base x n k (φR F)) (h : F = G) : CallF P w K mg base x n k (φR G) := h ▸ c
end
section
variable {X : Cx} {k n : Nat} {F : RFn} {x : Str} {p pos : Pos} {e : Expr} {es : List Expr} {u : RA}
theorem rm_callF (c : CallF X.prog X.w X.K X.mg X.base x n k (φR F)) (hr : Room k X.A) (hg : Gl X x) (ha : RMA X (e :: es) u) (hdb : (x == ("__debug__" : Str)) = false := by decide)
    (he : starEach (e :: es) X.env = (false, eval e X.env) :: starEach es X.env := by rfl) (hpl : (backTo pos (starEach es X.env)).any (·.1) = false := by rfl) : RM X (.Call (.Name x p) (e :: es) [] pos) (rCall n F u) := by
  obtain ⟨ta, pa, sa⟩ := ha
  refine ⟨_, pm_callF c hr hg pa hdb he hpl, fun A nb S k ex Q E hk he q => sa A nb S _ _ _ _ (fun ds S1 q1 => ?_) he q⟩
  obtain ⟨h1, h2⟩ := bad_if nb q1
  refine ⟨h1, ?_⟩
  unfold φR
  revert h2
  unfold outK
  cases F ds S1.W with
  | rt d W' => exact fun h2 => hk _ _ h2
  | ex x W' => exact fun h2 => he _ _ h2
  | bad => exact fun h2 => nb h2
end
end Pl
set_option Elab.async false
set_option linter.all false
set_option maxRecDepth 100000
set_option maxHeartbeats 4000000
/-! RlM: more rules with their runs: several names stored at once, stores in targets, sorted, list of a dict -/
namespace Pl
open PySem PySem.Spec L2
/-! ### several values, some of them new own objects -/
inductive Itm where
  | val (d : D) | own (o : Own)
inductive ItmAll (K : PySem.W.Frag) (H H0 : Hp) (σ : St) (S : Sta) : List V → List Itm → List Addr → Prop
  | nil : ItmAll K H H0 σ S [] [] []
  | val {v : V} {d : D} {vs : List V} {its : List Itm} {as : List Addr} : Rep K H v d → ItmAll K H H0 σ S vs its as → ItmAll K H H0 σ S (v :: vs) (.val d :: its) as
  | own {a : Addr} {o : Own} {vs : List V} {its : List Itm} {as : List Addr} : OwnAt K H a o → H0 a = none → ¬ Oa σ S a → a ∉ as → ItmAll K H H0 σ S vs its as → ItmAll K H H0 σ S (.ref a :: vs) (.own o :: its) (a :: as)
abbrev PTX := Tg (List Itm)
def lAX (X : Cx) (W : WX) (t : PTX) : TA := fun σ H Q => ∃ S Q' E', Rel X.K H σ S ∧ t S Q' E' ∧ (∀ vs its as H' S', Nx σ S H σ S' H' → Rel X.K H' σ S' → ItmAll X.K H' H σ S' vs its as → Q' its S' → Q vs H') ∧ UpX X.K σ S H W E'
def PMX (X : Cx) (es : List Expr) (t : PTX) : Prop := ∀ W, Takes X W → PA X es (lAX X W t)
def pxNil : PTX := fun S Q _ => Q [] S
def pxVal (t : PTE) (u : PTX) : PTX := fun S Q E => t S (fun d S1 => u S1 (fun its S2 => Q (.val d :: its) S2) E) E
def pxOwn (t : PTO) (u : PTX) : PTX := fun S Q E => t S (fun o S1 => u S1 (fun its S2 => Q (.own o :: its) S2) E) E
theorem ItmAll.fresh {K : PySem.W.Frag} {H H0 : Hp} {σ : St} {S : Sta} {vs : List V} {its : List Itm} {as : List Addr} (h : ItmAll K H H0 σ S vs its as) : ∀ a ∈ as, H0 a = none := by
  induction h with
  | nil => exact fun a h => nomatch h
  | val _ _ ih => exact ih
  | own _ h2 _ _ _ ih =>
    intro b hb
    rcases List.mem_cons.mp hb with rfl | hb
    · exact h2
    · exact ih b hb
theorem ItmAll.back {K : PySem.W.Frag} {H H0 H1 : Hp} {σ : St} {S : Sta} {vs : List V} {its : List Itm} {as : List Addr} (h : ItmAll K H H1 σ S vs its as) (k : ∀ b, H1 b = none → H0 b = none) : ItmAll K H H0 σ S vs its as := by
  induction h with
  | nil => exact .nil
  | val h1 _ ih => exact .val h1 ih
  | own h1 h2 h3 h4 _ ih => exact .own h1 (k _ h2) h3 h4 ih
theorem OwnAt.known {K : PySem.W.Frag} {H : Hp} {a : Addr} {o : Own} (h : OwnAt K H a o) : H a ≠ none := by
  obtain ⟨u, e, _⟩ := h.at
  rw [e]; exact fun z => nomatch z
section
variable {X : Cx} {e : Expr} {es : List Expr} {pos : Pos}
theorem pmx_nil : PMX X [] pxNil := fun W _ => weakA pa_nil fun σ H Q => by
  rintro ⟨S, Q', E', rel, q, up, _⟩
  exact up _ _ _ _ _ .refl rel .nil q
theorem pmx_val {te : PTE} {t : PTX} (ha : PM X e te) (hr : PMX X es t) (hs : starEach (e :: es) X.env = (false, eval e X.env) :: starEach es X.env := by rfl) : PMX X (e :: es) (pxVal te t) := fun W tk => weakA (pa_cons (ha W tk) (hr W tk) hs) fun σ H Q => by
  rintro ⟨S, Q', E', rel, q, up, ux⟩
  refine ⟨S, _, E', rel, q, fun v d H1 S1 n1 r1 p1 q1 => ?_, ux⟩
  refine ⟨S1, _, E', r1, q1, fun vs its as H2 S2 n2 r2 p2 q2 => ?_, ux.thn n1⟩
  exact up _ _ _ _ _ (n1.trans n2) r2 (.val (p1.nx n2) (p2.back n1.kn)) q2
theorem pmx_own {te : PTO} {t : PTX} (ha : PMO X e te) (hr : PMX X es t) (hs : starEach (e :: es) X.env = (false, eval e X.env) :: starEach es X.env := by rfl) : PMX X (e :: es) (pxOwn te t) := fun W tk => weakA (pa_cons (ha W tk) (hr W tk) hs) fun σ H Q => by
  rintro ⟨S, Q', E', rel, q, up, ux⟩
  refine ⟨S, _, E', rel, q, fun a o H1 S1 n1 r1 ow hn no q1 => ?_, ux⟩
  refine ⟨S1, _, E', r1, q1, fun vs its as H2 S2 n2 r2 p2 q2 => ?_, ux.thn n1⟩
  have kn := ow.known
  refine up _ _ _ _ _ (n1.trans n2) r2 (.own (ow.step n2.st no) hn (fun z => ?_) (fun z => kn (p2.fresh _ z)) (p2.back n1.kn)) q2
  rcases n2.oa _ z with z | z
  · exact no z
  · exact kn z
end
def itS : Itm → Slot
  | .val d => .val d
  | .own o => .own o
def putX : List Nat → List Itm → List Slot → List Slot
  | i :: is, it :: its, ρ => putX is its (ρ.set i (itS it))
  | _, _, ρ => ρ
def putV : List Nat → List V → St → St
  | i :: is, v :: vs, σ => putV is vs (σ.set i (some v))
  | _, _, σ => σ
theorem ItmAll.oa {K : PySem.W.Frag} {H H0 : Hp} {σ σ' : St} {S S' : Sta} {vs : List V} {its : List Itm} {as : List Addr} (h : ItmAll K H H0 σ S vs its as) : (∀ b ∈ as, ¬ Oa σ S b → H b ≠ none → ¬ Oa σ' S' b) → ItmAll K H H0 σ' S' vs its as := by
  induction h with
  | nil => exact fun _ => .nil
  | val h1 _ ih => exact fun k => .val h1 (ih k)
  | own h1 h2 h3 h4 _ ih => exact fun k => .own h1 h2 (k _ (List.mem_cons_self ..) h3 h1.known) h4 (ih fun b hb => k b (List.mem_cons_of_mem _ hb))
theorem putX_ok {K : PySem.W.Frag} {H H0 : Hp} {σ0 : St} {S0 : Sta} : ∀ {is : List Nat} {its : List Itm} {vs : List V} {as : List Addr} {σ : St} {S : Sta}, Rel K H σ S → Nx σ0 S0 H0 σ S H → ItmAll K H H0 σ S vs its as →
    Nx σ0 S0 H0 (putV is vs σ) ⟨putX is its S.ρ, S.W⟩ H ∧ Rel K H (putV is vs σ) ⟨putX is its S.ρ, S.W⟩
  | [], its, vs, as, σ, S, r, n, h => by
    have e1 : putV [] vs σ = σ := by unfold putV; rfl
    have e2 : putX [] its S.ρ = S.ρ := by unfold putX; rfl
    rw [e1, e2]; exact ⟨n, r⟩
  | i :: is, [], [], [], σ, S, r, n, .nil => ⟨n, r⟩
  | i :: is, .val d :: its, v :: vs, as, σ, S, r, n, .val h t => by
    obtain ⟨n1, r1⟩ := r.put (i := i) h
    exact putX_ok (is := is) (as := as) r1 (n.trans n1) (t.oa fun b _ h1 h2 z => (n1.oa b z).elim h1 h2)
  | i :: is, .own o :: its, .ref a :: vs, _ :: as, σ, S, r, n, .own h1 h2 h3 h4 t => by
    obtain ⟨r1, oa⟩ := r.putOwn (i := i) h1 h3
    refine putX_ok (is := is) (as := as) r1 ⟨n.st, n.kn, fun x z => ?_⟩ (t.oa fun b hb g1 g2 z => (oa b z).elim g1 fun e => h4 (e ▸ hb))
    rcases oa x z with z | rfl
    · exact n.oa x z
    · exact .inr h2
theorem ItmAll.len {K : PySem.W.Frag} {H H0 : Hp} {σ : St} {S : Sta} {vs : List V} {its : List Itm} {as : List Addr} (h : ItmAll K H H0 σ S vs its as) : vs.length = its.length := by
  induction h with
  | nil => rfl
  | val _ _ ih => exact congrArg (· + 1) ih
  | own _ _ _ _ _ ih => exact congrArg (· + 1) ih
def pParX (js : List Nat) (t : PTX) : PTS := fun P S => t S (fun its S1 => its.length = js.length ∧ P.nx ⟨putX js its S1.ρ, S1.W⟩) P.ex
section
variable {X : Cx} {es : List Expr} {st : Stmt}
theorem pms_parX2 {i j : Nat} {t : PTX} (ha : PMX X es t) (h : ∀ ta, PA X es ta → L2.PS X st (tPar i j ta)) : PMS X st (pParX [i, j] t) := fun W tk => weakS (h _ (ha W tk)) fun D σ H => by
  rintro ⟨S, P, rel, q, up⟩
  refine ⟨S, _, _, rel, q, fun vs its as H1 S1 n1 r1 p1 q1 => ?_, up.ux⟩
  obtain ⟨hl, q1⟩ := q1
  have e := p1.len
  rw [hl] at e
  match vs, e with
  | [v, w], _ =>
    obtain ⟨n2, r2⟩ := putX_ok (is := [i, j]) r1 n1 p1
    exact ⟨v, w, rfl, up.nx _ _ _ n2 r2 q1⟩
theorem pms_parX3 {i j l : Nat} {t : PTX} (ha : PMX X es t) (h : ∀ ta, PA X es ta → L2.PS X st (tPar3 i j l ta)) : PMS X st (pParX [i, j, l] t) := fun W tk => weakS (h _ (ha W tk)) fun D σ H => by
  rintro ⟨S, P, rel, q, up⟩
  refine ⟨S, _, _, rel, q, fun vs its as H1 S1 n1 r1 p1 q1 => ?_, up.ux⟩
  obtain ⟨hl, q1⟩ := q1
  have e := p1.len
  rw [hl] at e
  match vs, e with
  | [v, w, u], _ =>
    obtain ⟨n2, r2⟩ := putX_ok (is := [i, j, l]) r1 n1 p1
    exact ⟨v, w, u, rfl, up.nx _ _ _ n2 r2 q1⟩
abbrev RAX := RG (List Itm)
def RMX (X : Cx) (es : List Expr) (r : RAX) : Prop := ∃ t, PMX X es t ∧ Snd t r
def rxNil : RAX := fun S k _ => k [] S
def rxVal (r : RE) (u : RAX) : RAX := fun S k e => r S (fun d S1 => u S1 (fun its S2 => k (.val d :: its) S2) e) e
def rxOwn (r : RG Own) (u : RAX) : RAX := fun S k e => r S (fun o S1 => u S1 (fun its S2 => k (.own o :: its) S2) e) e
def rParX (js : List Nat) (t : RAX) : RS := fun K S => t S (fun its S1 => if its.length = js.length then K.nx ⟨putX js its S1.ρ, S1.W⟩ else .bad) K.ex
variable {e : Expr}
theorem rmx_nil : RMX X [] rxNil := ⟨_, pmx_nil, fun A nb S k ex Q E hk he q => hk _ _ q⟩
theorem rmx_val {r : RE} {u : RAX} (ha : RM X e r) (hr : RMX X es u) (hs : starEach (e :: es) X.env = (false, eval e X.env) :: starEach es X.env := by rfl) : RMX X (e :: es) (rxVal r u) := by
  obtain ⟨ta, pa, sa⟩ := ha; obtain ⟨tb, pb, sb⟩ := hr
  exact ⟨_, pmx_val pa pb hs, fun A nb S k ex Q E hk he q => sa A nb S _ ex _ E (fun x S1 q1 => sb A nb S1 _ ex _ E (fun y S2 q2 => hk _ _ q2) he q1) he q⟩
theorem rmx_own {r : RG Own} {u : RAX} (ha : RMO X e r) (hr : RMX X es u) (hs : starEach (e :: es) X.env = (false, eval e X.env) :: starEach es X.env := by rfl) : RMX X (e :: es) (rxOwn r u) := by
  obtain ⟨ta, pa, sa⟩ := ha; obtain ⟨tb, pb, sb⟩ := hr
  exact ⟨_, pmx_own pa pb hs, fun A nb S k ex Q E hk he q => sa A nb S _ ex _ E (fun x S1 q1 => sb A nb S1 _ ex _ E (fun y S2 q2 => hk _ _ q2) he q1) he q⟩
theorem snd_parX {js : List Nat} {t : PTX} {r : RAX} (h : Snd t r) : SndS (pParX js t) (rParX js r) := fun A nb K P S a q => h A nb S _ _ _ _ (fun its S1 q1 => by
  obtain ⟨h1, h2⟩ := bad_if nb q1
  exact ⟨h1, a.nx _ h2⟩) a.ex q
theorem rms_parX2 {i j : Nat} {r : RAX} (ha : RMX X es r) (h : ∀ ta, PA X es ta → L2.PS X st (tPar i j ta)) : RMS X st (rParX [i, j] r) := by
  obtain ⟨ta, pa, sa⟩ := ha
  exact ⟨_, pms_parX2 pa h, snd_parX sa⟩
theorem rms_parX3 {i j l : Nat} {r : RAX} (ha : RMX X es r) (h : ∀ ta, PA X es ta → L2.PS X st (tPar3 i j l ta)) : RMS X st (rParX [i, j, l] r) := by
  obtain ⟨ta, pa, sa⟩ := ha
  exact ⟨_, pms_parX3 pa h, snd_parX sa⟩
end
/-! ### a store as a target -/
section
variable {X : Cx} {vs : List Nat} {a b : Expr} {pos : Pos}
def pgSub (tk : PTK) (ti : PTE) : PTG := fun d S Q => tk S (fun p S1 => ti S1 (fun i S2 => setC (con S2 p) i d fun o' => Q (putC S2 p o')) noX) noX
theorem noX_up {K : PySem.W.Frag} {σ : St} {S : Sta} {H : Hp} {W : WX} : UpX K σ S H W noX := fun _ _ _ _ _ _ _ _ z => z.elim
theorem pmg_sub {tk : PTK} {ti : PTE} (hk : PK X a tk) (hi : PM X b ti) (hs : PSet X (fun o i v H Q => rSetL o i v H Q ∨ rSetD o i v H Q))
    (ha : ∀ v, assign (.Subscript a b pos) X.env v = (do
      let ov ← holding [v] (eval a X.env)
      let iv ← holding [v, ov] (eval b X.env)
      standAt pos
      holding [v, ov, iv] (setItem ov iv v)
      release [v, ov, iv] []) := by intro _; rfl) : PMG X vs (.Subscript a b pos) (pgSub tk ti) :=
  weakG (pg_sub (hk (fun _ _ _ _ => False) takes0) (hi (fun _ _ _ _ => False) takes0) hs ha) fun v σ H Q => by
  rintro ⟨d, S, Q', rel, rp0, q, up⟩
  refine ⟨S, _, _, rel, q, fun x p H2 S2 n2 r2 p2 q2 => ?_, noX_up⟩
  refine ⟨S2, _, _, r2, q2, fun y i H3 S3 n3 r3 p3 q3 => ?_, noX_up⟩
  have rd := (rp0.nx n2).nx n3
  have rp := p2.nx n3
  have nn := n2.trans n3
  simp only [setC] at q3
  split at q3
  · rename_i xs hc
    obtain ⟨k, j, rfl, hj, q3⟩ := q3
    obtain ⟨a, rfl, ⟨ys, ha, ra⟩, mt⟩ := r3.mut hc rp
    cases p3
    obtain ⟨nx, r'⟩ := mt (.lst (xs.set j d)) (.lst (ys.set j v)) fun H4 st h4 => ⟨_, h4, RepAll.set (rd.step st) j (ra.step st)⟩
    exact .inl ⟨a, ys, k, j, rfl, rfl, ha, by rw [ra.length]; exact hj, up _ _ _ rfl (nn.trans nx) r' q3⟩
  · rename_i ks vs hc
    obtain ⟨hk, hl, q3⟩ := q3
    obtain ⟨k, hk⟩ := Option.isSome_iff_exists.mp hk
    have ek := keyK_some hk
    subst ek
    obtain ⟨a, rfl, ⟨kvs, ha, rfl, ra⟩, mt⟩ := r3.mut hc rp
    obtain ⟨nx, r'⟩ := mt (.dct (dput (kvs.map fun p => keyD p.1) vs (keyD k) d).1 (dput (kvs.map fun p => keyD p.1) vs (keyD k) d).2) (.dK (putK kvs k v)) fun H4 st h4 =>
      ⟨_, h4, (dput_rep (rd.step st) (ra.step st)).1, (dput_rep (rd.step st) (ra.step st)).2⟩
    refine .inr ⟨a, _, rfl, ?_, up _ _ _ rfl (nn.trans nx) r' q3⟩
    rw [keyV p3]
    exact .k ha (by rw [← List.length_map (f := fun p : Key × V => keyD p.1)]; exact hl)
  · exact q3.elim
def rgSub (rk : RG Pk) (ri : RE) : RTg := fun d S k => rk S (fun p S1 => ri S1 (fun i S2 => thnO (fsetC (con S2 p) i d) fun o => k (putC S2 p o)) badX) badX
theorem rmg_sub {rk : RG Pk} {ri : RE} (hk : RMK X a rk) (hi : RM X b ri) (hs : PSet X (fun o i v H Q => rSetL o i v H Q ∨ rSetD o i v H Q))
    (ha : ∀ v, assign (.Subscript a b pos) X.env v = (do
      let ov ← holding [v] (eval a X.env)
      let iv ← holding [v, ov] (eval b X.env)
      standAt pos
      holding [v, ov, iv] (setItem ov iv v)
      release [v, ov, iv] []) := by intro _; rfl) : RMG X vs (.Subscript a b pos) (rgSub rk ri) := by
  obtain ⟨tk, pk, sk⟩ := hk; obtain ⟨ti, pi, si⟩ := hi
  refine ⟨_, pmg_sub pk pi hs ha, fun A nb d S k Q hk q => sk A nb S _ _ _ _ (fun p S1 q1 => si A nb S1 _ _ _ _ (fun i S2 q2 => ?_) (fun _ _ z => absurd z nb) q1) (fun _ _ z => absurd z nb) q⟩
  obtain ⟨z, e1, e2⟩ := thnO_ok nb q2
  exact setC_sound e1 (hk _ e2)
end
/-! ### sorted -/
def insI (x : Int) : List Int → List Int
  | [] => [x]
  | y :: r => if x ≤ y then x :: y :: r else y :: insI x r
def isort : List Int → List Int
  | [] => []
  | x :: r => insI x (isort r)
theorem insI_perm (x : Int) : ∀ l, (insI x l).Perm (x :: l)
  | [] => .refl _
  | y :: r => by
    unfold insI
    split
    · exact .refl _
    · exact ((insI_perm x r).cons y).trans (.swap x y r)
theorem isort_perm : ∀ l, (isort l).Perm l
  | [] => .refl _
  | x :: r => (insI_perm x _).trans ((isort_perm r).cons x)
theorem insI_sorted (x : Int) : ∀ l, l.Pairwise (· ≤ ·) → (insI x l).Pairwise (· ≤ ·)
  | [], _ => by simp [insI]
  | y :: r, h => by
    unfold insI
    obtain ⟨h1, h2⟩ := List.pairwise_cons.mp h
    split
    · rename_i hx
      refine List.pairwise_cons.mpr ⟨fun z hz => ?_, h⟩
      rcases List.mem_cons.mp hz with rfl | hz
      · exact hx
      · exact Int.le_trans hx (h1 z hz)
    · rename_i hx
      refine List.pairwise_cons.mpr ⟨fun z hz => ?_, insI_sorted x r h2⟩
      rcases List.mem_cons.mp ((insI_perm x r).mem_iff.mp hz) with rfl | hz
      · omega
      · exact h1 z hz
theorem isort_sorted : ∀ l, (isort l).Pairwise (· ≤ ·)
  | [] => .nil
  | x :: r => insI_sorted x _ (isort_sorted r)
theorem isort_uniq {a b : List Int} (h : a.Perm b) (hs : a.Pairwise (· ≤ ·)) : a = isort b :=
  (h.trans (isort_perm b).symm).eq_of_pairwise (fun x y _ _ h1 h2 => Int.le_antisymm h1 h2) hs (isort_sorted b)
def oSorted : OpN := fun ds Q => ∃ xs ns, ds = [.lst xs] ∧ intsD xs = some ns ∧ Q (.lst ((isort ns).map D.int))
theorem rep_ints {K : PySem.W.Frag} {H : Hp} : ∀ ns : List Int, RepAll K H (ns.map V.int) (ns.map D.int)
  | [] => .nil
  | n :: r => .cons (.int n) (rep_ints r)
theorem cd_sorted {X : Cx} : CallD X (.builtin "sorted") oSorted := ⟨_, CallR_frz cr_sortedI, fun H xs ds Q Q' r o f => by
  obtain ⟨ys, ns, rfl, h1, q⟩ := o
  obtain ⟨v, rfl, rv⟩ := rep1 r
  cases rv with
  | lst hq ha =>
    obtain rfl := ints_rep ha h1
    refine ⟨_, ns, rfl, hq.sq, fun ns' p hp hs hn => ?_⟩
    rw [isort_uniq hp hs]
    exact f.newL hn (rep_ints _) q⟩
def fSorted (ds : List D) : Option D := match ds with
  | [.lst xs] => (intsD xs).map fun ns => .lst ((isort ns).map D.int)
  | _ => none
theorem cf_sorted {X : Cx} : CallFn X (.builtin "sorted") fSorted := ⟨_, cd_sorted, fun x z Q h q => by
  unfold fSorted at h
  split at h
  · obtain ⟨c, h1, rfl⟩ := Option.map_eq_some_iff.mp h; exact ⟨_, c, rfl, h1, q⟩
  · cases h⟩
/-! ### list(a dict) -/
def rListF : List V → Hp → VK → Prop := fun xs H Q => ∃ p kvs, xs = [.ref p] ∧ Rd H p (.dK kvs) ∧ ∀ q, H q = none → Q (.ref q) (upd H q (.lst (kvs.map fun kv => kV kv.1)))
theorem call_list_dF {X : Cx} (hc : X.calm = true) : CallR X (.type "list") rListF := by
  intro pins s σ H xs us Q I r h
  obtain ⟨p, kvs, e, hk, q⟩ := h
  subst e
  obtain ⟨u, eu, rx⟩ := vals1 r
  subst eu
  obtain rfl : u = Value.ref p := rx
  obtain ⟨z, lo, vs, rk, hd⟩ := dk_rd I.hok hk
  obtain ⟨ep, hat⟩ := hd.dictAt
  have hl : kvs.length = vs.length := Paired.length rk
  refine PySem.W.kdl_call (PySem.W.kdl_dict (knd := mixKind X.prog X.w) (kvs := vs) (ep := ep) lo) (I.ok.hd hc) hat (by rw [← hl]; exact z) fun h' tk acc' c' hkeep hS hacc => ?_
  refine ⟨.ref s.heap.objs.size, upd H s.heap.objs.size (.lst (kvs.map fun kv => kV kv.1)), I.laid hkeep (Nat.le_refl _) (show ObjOk X.prog X.w _ _ _ (.lst (kvs.map fun kv => kV kv.1)) from ⟨?_, acc'.toList, c', ?_, ?_⟩), rfl, q _ (I.hok.fresh (Nat.le_refl _))⟩
  · rw [List.length_map]; exact z
  · have el : acc'.toList.length = acc'.size := by simp
    refine vals_of_at (by rw [List.length_map, el, hacc.1, hl]) fun j x w h1 h2 => ?_
    obtain ⟨k, y, hky, hi⟩ := hacc.2 j w (by rw [← Array.getElem?_toList]; exact h2)
    have e1 : (kvs.map (·.1))[j]? = some k := by
      rw [KV.keys rk, List.getElem?_map, hky] <;> rfl
    have e2 : (kvs.map fun kv => kV kv.1)[j]? = some (kV k) := by
      have e3 : (kvs.map fun kv => kV kv.1) = (kvs.map (·.1)).map kV := by rw [List.map_map] <;> rfl
      rw [e3, List.getElem?_map, e1] <;> rfl
    rw [e2] at h1
    cases h1
    exact keyIs_rel hi
  · rw [Array.toArray_toList]; exact hS
theorem rep_keys {K : PySem.W.Frag} {H : Hp} : ∀ kvs : List (Key × V), RepAll K H (kvs.map fun kv => kV kv.1) (kvs.map fun p => keyD p.1)
  | [] => .nil
  | (k, v) :: r => .cons (by cases k <;> constructor) (rep_keys r)
def oListD : OpN := fun ds Q => ∃ ks vs, ds = [.dct ks vs] ∧ Q (.lst ks)
theorem cd_listD {X : Cx} (hc : X.calm = true) : CallD X (.type "list") oListD := ⟨_, CallR_frz (call_list_dF hc), fun H xs ds Q Q' r o f => by
  obtain ⟨ks, vs, rfl, q⟩ := o
  obtain ⟨v, rfl, rv⟩ := rep1 r
  cases rv with
  | dct he ha => exact ⟨_, _, rfl, .inr ⟨_, he⟩, fun p hn => f.newL hn (rep_keys _) q⟩⟩
theorem CallD_or {X : Cx} {v : Value} {o o' : OpN} (h : CallD X v o) (h' : CallD X v o') : CallD X v (fun ds Q => o ds Q ∨ o' ds Q) := by
  obtain ⟨r, hr, hl⟩ := h; obtain ⟨r', hr', hl'⟩ := h'
  refine ⟨fun xs H Q => r xs H Q ∨ r' xs H Q, fun pins s σ H x v Q I rx q => ?_, fun H xs ds Q Q' rp o f => ?_⟩
  · rcases q with q | q
    · exact hr pins s σ H x v Q I rx q
    · exact hr' pins s σ H x v Q I rx q
  · rcases o with o | o
    · exact .inl (hl H xs ds Q Q' rp o f)
    · exact .inr (hl' H xs ds Q Q' rp o f)
def fListA (ds : List D) : Option D := match ds with
  | [.tup xs] => some (.lst xs)
  | [.lst xs] => some (.lst xs)
  | [.dct ks _] => some (.lst ks)
  | _ => none
theorem cf_listA {X : Cx} (hc : X.calm = true) : CallFn X (.type "list") fListA := ⟨_, CallD_or cd_list (cd_listD hc), fun x z Q h q => by
  unfold fListA at h
  split at h
  · cases h; exact .inl q
  · cases h; exact .inl q
  · cases h; exact .inr ⟨_, _, rfl, q⟩
  · cases h⟩
def whN : Nat := 1000000000
end Pl
set_option Elab.async false
set_option linter.all false
set_option maxRecDepth 100000
set_option maxHeartbeats 4000000
/-! Kt: loops as typed data, and their images -/
namespace Kt
open PySem PySem.Spec L2 Pl
inductive Tst where
  | due | flag | late (n : Int)
  deriving DecidableEq
inductive Stm where
  | wait (n : Int) | rest (n : Int) | move (n : Int) | ahead (n : Int) | set (n : Int) | «until» | up | down
  | ite (t : Tst) (a b : List Stm)
structure Loop where
  least : Int
  most : Int
  first : Int
  body : List Stm
def encT : Tst → D
  | .due => .tup [.str "due"]
  | .flag => .tup [.str "flag"]
  | .late n => .tup [.str "late", .int n]
mutual
def encS : Stm → D
  | .wait n => .tup [.str "wait", .int n]
  | .rest n => .tup [.str "rest", .int n]
  | .move n => .tup [.str "move", .int n]
  | .ahead n => .tup [.str "ahead", .int n]
  | .set n => .tup [.str "set", .int n]
  | .until => .tup [.str "until"]
  | .up => .tup [.str "up"]
  | .down => .tup [.str "down"]
  | .ite t a b => .tup [.str "if", encT t, .tup (encSs a), .tup (encSs b)]
def encSs : List Stm → List D
  | [] => []
  | s :: r => encS s :: encSs r
end
theorem encSs_map (b : List Stm) : encSs b = b.map encS := by
  induction b with
  | nil => rfl
  | cons s r ih => simp only [encSs, List.map_cons, ih]
def encB (b : List Stm) : D := .tup (encSs b)
def encL (l : Loop) : D := .tup [.int l.least, .int l.most, .int l.first, encB l.body]
/-- numbers that are let -/
def inR (a b n : Int) : Bool := decide (a ≤ n) && decide (n ≤ b)
def okT : Tst → Bool
  | .late n => inR 0 8 n
  | _ => true
def okS : Nat → Stm → Bool
  | 0, _ => false
  | d + 1, s => match s with
    | .wait n => inR 1 8 n
    | .rest n => inR 1 8 n
    | .move n => inR 1 8 n
    | .ahead n => inR 1 8 n
    | .set n => inR 0 8 n
    | .until => true
    | .up => true
    | .down => true
    | .ite t a b => okT t && ((decide (a.length ≤ 8) && a.all (okS d)) && (decide (b.length ≤ 8) && b.all (okS d)))
def okB (d : Nat) (b : List Stm) : Bool := decide (b.length ≤ 8) && b.all (okS d)
/- all statements, in the order in which they are written -/
mutual
def listedS : Stm → List Stm
  | .wait n => [.wait n]
  | .rest n => [.rest n]
  | .move n => [.move n]
  | .ahead n => [.ahead n]
  | .set n => [.set n]
  | .until => [.until]
  | .up => [.up]
  | .down => [.down]
  | .ite t a b => .ite t a b :: (listedB a ++ listedB b)
def listedB : List Stm → List Stm
  | [] => []
  | s :: r => listedS s ++ listedB r
end
def okL (l : Loop) : Bool := inR 0 8 l.least && inR 0 8 l.most && inR 0 8 l.first && decide (l.least ≤ l.most) && okB 3 l.body && decide ((listedB l.body).length ≤ 12)
def wordS : Stm → Str
  | .wait _ => "wait"
  | .rest _ => "rest"
  | .move _ => "move"
  | .ahead _ => "ahead"
  | .set _ => "set"
  | .until => "until"
  | .up => "up"
  | .down => "down"
  | .ite _ _ _ => "if"
/-! ### images are good -/
theorem gd_T : ∀ t : Tst, D.gd 1 (encT t) = true
  | .due => by decide +kernel
  | .flag => by decide +kernel
  | .late n => by
    have h : D.gd 0 (.str "late") = true := by decide +kernel
    rw [encT, gd_tup]; simp only [List.all_cons, List.all_nil, h, Bool.true_and, Bool.and_true]; rfl
theorem okS_succ : ∀ (d : Nat) (s : Stm), okS d s = true → D.gd (2 * d + 1) (encS s) = true
  | 0, s, h => by simp [okS] at h
  | d + 1, s, h => by
    have num : ∀ (x : Str) (n : Int), D.gd 0 (.str x) = true → D.gd (2 * (d + 1) + 1) (.tup [.str x, .int n]) = true := fun x n hx => by
      rw [gd_tup]
      simp only [List.all_cons, List.all_nil, gd_mono hx (Nat.zero_le _), Bool.true_and, Bool.and_true]
      exact gd_mono (n := 0) rfl (Nat.zero_le _)
    have one : ∀ (x : Str), D.gd 0 (.str x) = true → D.gd (2 * (d + 1) + 1) (.tup [.str x]) = true := fun x hx => by
      rw [gd_tup]
      simp only [List.all_cons, List.all_nil, gd_mono hx (Nat.zero_le _), Bool.true_and, Bool.and_true]
    cases s with
    | wait n => exact num _ n (by decide +kernel)
    | rest n => exact num _ n (by decide +kernel)
    | move n => exact num _ n (by decide +kernel)
    | ahead n => exact num _ n (by decide +kernel)
    | set n => exact num _ n (by decide +kernel)
    | «until» => exact one _ (by decide +kernel)
    | up => exact one _ (by decide +kernel)
    | down => exact one _ (by decide +kernel)
    | ite t a b =>
      simp only [okS, Bool.and_eq_true, List.all_eq_true] at h
      obtain ⟨h1, ⟨_, h2⟩, ⟨_, h3⟩⟩ := h
      have bod : ∀ a : List Stm, (∀ x ∈ a, okS d x = true) → D.gd (2 * (d + 1)) (.tup (encSs a)) = true := fun a h => by
        show D.gd ((2 * d + 1) + 1) (.tup (encSs a)) = true
        rw [gd_tup, encSs_map, List.all_map, List.all_eq_true]
        exact fun x hx => okS_succ d x (h x hx)
      have hi : D.gd 0 (.str "if") = true := by decide +kernel
      rw [encS, gd_tup]
      simp only [List.all_cons, List.all_nil, gd_mono hi (Nat.zero_le _), gd_mono (gd_T t) (show 1 ≤ 2 * (d + 1) by omega), bod a h2, bod b h3, Bool.true_and, Bool.and_true]
theorem gd_B {d : Nat} {b : List Stm} (h : okB d b = true) : D.gd (2 * d + 2) (encB b) = true := by
  simp only [okB, Bool.and_eq_true, List.all_eq_true] at h
  show D.gd ((2 * d + 1) + 1) (.tup (encSs b)) = true
  rw [gd_tup, encSs_map, List.all_map, List.all_eq_true]
  exact fun x hx => okS_succ d x (h.2 x hx)
theorem good_S {d : Nat} {s : Stm} (h : okS d s = true) (hd : d ≤ 20 := by decide) : (encS s).good = true := by
  have := okS_succ d s h
  exact gd_good (gd_mono this (show 2 * d + 1 ≤ 60 by omega)) (Nat.le_refl _)
theorem good_B {d : Nat} {b : List Stm} (h : okB d b = true) (hd : d ≤ 20 := by decide) : (encB b).good = true := gd_good (gd_mono (gd_B h) (show 2 * d + 2 ≤ 60 by omega)) (Nat.le_refl _)
theorem gd_L {l : Loop} (h : okL l = true) : D.gd 9 (encL l) = true := by
  simp only [okL, Bool.and_eq_true] at h
  have hb := gd_B h.1.2
  have hi : ∀ n : Int, D.gd 8 (.int n) = true := fun n => gd_mono (n := 0) rfl (Nat.zero_le _)
  rw [encL, gd_tup]
  simp only [List.all_cons, List.all_nil, hi, hb, Bool.true_and, Bool.and_true]
theorem good_L {l : Loop} (h : okL l = true) : (encL l).good = true := gd_good (gd_L h)
end Kt
set_option Elab.async false
set_option linter.all false
set_option maxRecDepth 100000
set_option maxHeartbeats 4000000
/-! KtV: what the checks of the library tell of any value, and what that says of loops as typed data -/
namespace Kt
open PySem PySem.Spec L2 Pl
def isNum (v : D) (a b : Int) : Bool := match v with
  | .int i => decide (a ≤ i) && decide (i ≤ b)
  | _ => false
def φ_is_number : PFn := fun ds W Q _ => ∃ v a b, ds = [v, .int a, .int b] ∧ v.dat = true ∧ Q (.bl (isNum v a b)) W
def tab_LEAST_NUMBERS : List (Str × D) := [("wait", .int 1), ("rest", .int 1), ("move", .int 1), ("ahead", .int 1), ("set", .int 0), ("late", .int 0)]
/-- the words that have numbers -/
def leastOf (x : Str) : Option Int := if x = "set" ∨ x = "late" then some 0 else if x = "wait" ∨ x = "rest" ∨ x = "move" ∨ x = "ahead" then some 1 else none
theorem tab_least {x : Str} {n : Int} (h : leastOf x = some n) : tab_LEAST_NUMBERS.lookup x = some (.int n) := by
  unfold leastOf at h
  split at h
  · rename_i e
    cases h
    rcases e with rfl | rfl <;> rfl
  · split at h
    · rename_i e
      cases h
      rcases e with rfl | rfl | rfl | rfl <;> rfl
    · cases h
/-- a pair of one of some words and a number -/
def isCounted (x : Str) (r : List D) (ws : List Str) : Bool := match r with
  | [v] => ws.contains x && isNum v ((leastOf x).getD 0) 8
  | _ => false
def φ_is_counted : PFn := fun ds W Q _ => ∃ x r ws, ds = [.tup (.str x :: r), .tup (ws.map .str)] ∧ D.good (.tup (.str x :: r)) = true ∧ D.good (.tup (ws.map .str)) = true ∧ (∀ y ∈ ws, (leastOf y).isSome = true) ∧ Q (.bl (isCounted x r ws)) W
theorem any_words (ws : List Str) (x : Str) : ((ws.map D.str).any fun z => eqD z (.str x)) = ws.contains x := by
  induction ws with
  | nil => rfl
  | cons y r ih =>
    rw [List.map_cons, List.any_cons, List.contains_cons, ih, eqD_str]
    congr 1
    rw [Bool.eq_iff_iff, beq_iff_eq, beq_iff_eq]
    exact eq_comm
def isWorded (v : D) : Bool := match v with
  | .tup (.str _ :: _) => true
  | _ => false
def φ_is_worded : PFn := fun ds W Q _ => ∃ v, ds = [v] ∧ v.good = true ∧ Q (.bl (isWorded v)) W
def isTest (v : D) : Bool := match v with
  | .tup [.str x] => x == "due" || x == "flag"
  | .tup [.str x, n] => x == "late" && isNum n 0 8
  | _ => false
theorem isTest_worded {v : D} (h : isWorded v = false) : isTest v = false := by
  unfold isTest
  split
  · simp [isWorded] at h
  · simp [isWorded] at h
  · rfl
def φ_is_test : PFn := fun ds W Q _ => ∃ v, ds = [v] ∧ v.good = true ∧ Q (.bl (isTest v)) W
def bodW (f : D → Bool) (v : D) : Bool := match v with
  | .tup xs => decide (xs.length ≤ 8) && xs.all f
  | _ => false
def isStm : Nat → D → Bool
  | 0, _ => false
  | d + 1, v => match v with
    | .tup (.str x :: r) =>
      if x = "if" then match r with
        | [t, a, b] => isTest t && (bodW (isStm d) a && bodW (isStm d) b)
        | _ => false
      else if (r.isEmpty && (x == "until" || (x == "up" || x == "down"))) = true then true else isCounted x r ["wait", "rest", "move", "ahead", "set"]
    | _ => false
def isBod (d : Nat) (v : D) : Bool := bodW (isStm d) v
def φ_is_statement (d : Nat) : PFn := fun ds W Q _ => ∃ v, ds = [v, .int d] ∧ v.good = true ∧ Q (.bl (isStm d v)) W
def φ_is_body (d : Nat) : PFn := fun ds W Q _ => ∃ v, ds = [v, .int d] ∧ v.good = true ∧ Q (.bl (isBod d v)) W
def φ_is_body' : Nat → PFn
  | 0 => fun _ _ _ _ => False
  | d + 1 => φ_is_body d
theorem isStm_worded {d : Nat} {v : D} (h : isWorded v = false) : isStm d v = false := by
  cases d with
  | zero => rfl
  | succ d =>
    unfold isStm
    split
    · simp [isWorded] at h
    · rfl
/-! ### images -/
theorem isNum_iff {v : D} {a b : Int} : isNum v a b = true ↔ ∃ n, inR a b n = true ∧ v = .int n := by
  unfold isNum inR
  constructor
  · intro h
    split at h
    · exact ⟨_, h, rfl⟩
    · cases h
  · rintro ⟨n, h, rfl⟩
    exact h
theorem isTest_iff {v : D} : isTest v = true ↔ ∃ t, okT t = true ∧ v = encT t := by
  constructor
  · intro h
    unfold isTest at h
    split at h
    · rename_i x
      simp only [Bool.or_eq_true, beq_iff_eq] at h
      rcases h with rfl | rfl
      · exact ⟨.due, rfl, rfl⟩
      · exact ⟨.flag, rfl, rfl⟩
    · rename_i x n
      simp only [Bool.and_eq_true, beq_iff_eq] at h
      obtain ⟨rfl, h⟩ := h
      obtain ⟨n, h, rfl⟩ := isNum_iff.mp h
      exact ⟨.late n, h, rfl⟩
    · cases h
  · rintro ⟨t, h, rfl⟩
    cases t with
    | due => rfl
    | flag => rfl
    | late n => simpa [encT, isTest] using isNum_iff.mpr ⟨n, h, rfl⟩
theorem all_iff_map {f : D → Bool} {p : Stm → Bool} {e : Stm → D} (h : ∀ v, f v = true ↔ ∃ s, p s = true ∧ v = e s) : ∀ xs : List D, xs.all f = true ↔ ∃ b : List Stm, b.all p = true ∧ xs = b.map e
  | [] => ⟨fun _ => ⟨[], rfl, rfl⟩, fun _ => rfl⟩
  | x :: r => by
    rw [List.all_cons, Bool.and_eq_true, h x, all_iff_map h r]
    constructor
    · rintro ⟨⟨s, h1, rfl⟩, ⟨b, h2, rfl⟩⟩
      exact ⟨s :: b, by simp [h1, h2], rfl⟩
    · rintro ⟨b, h1, h2⟩
      cases b with
      | nil => cases h2
      | cons s b =>
        rw [List.map_cons, List.cons.injEq] at h2
        rw [List.all_cons, Bool.and_eq_true] at h1
        exact ⟨⟨s, h1.1, h2.1⟩, ⟨b, h1.2, h2.2⟩⟩
theorem isBod_of {d : Nat} (h : ∀ v, isStm d v = true ↔ ∃ s, okS d s = true ∧ v = encS s) (v : D) : isBod d v = true ↔ ∃ b, okB d b = true ∧ v = encB b := by
  unfold isBod bodW
  constructor
  · intro hv
    split at hv
    · rename_i xs
      rw [Bool.and_eq_true, all_iff_map h] at hv
      obtain ⟨h1, b, h2, rfl⟩ := hv
      exact ⟨b, by simpa [okB, h2] using h1, by rw [encB, encSs_map]⟩
    · cases hv
  · rintro ⟨b, hb, rfl⟩
    simp only [okB, Bool.and_eq_true] at hb
    simp only [encB, encSs_map, List.length_map, Bool.and_eq_true]
    exact ⟨hb.1, (all_iff_map h _).mpr ⟨b, hb.2, rfl⟩⟩
theorem isStm_iff : ∀ (d : Nat) (v : D), isStm d v = true ↔ ∃ s, okS d s = true ∧ v = encS s
  | 0, v => by
    constructor
    · intro h; cases h
    · rintro ⟨s, h, _⟩; simp [okS] at h
  | d + 1, v => by
    have ih := isBod_of (isStm_iff d)
    constructor
    · intro h
      unfold isStm at h
      split at h
      · rename_i x r
        split at h
        · rename_i hx
          subst hx
          split at h
          · rename_i t a b
            rw [Bool.and_eq_true, Bool.and_eq_true] at h
            obtain ⟨h1, h2, h3⟩ := h
            obtain ⟨t, ht, rfl⟩ := isTest_iff.mp h1
            obtain ⟨a, ha, rfl⟩ := (ih a).mp h2
            obtain ⟨b, hb, rfl⟩ := (ih b).mp h3
            refine ⟨.ite t a b, ?_, rfl⟩
            unfold okB at ha hb
            simp [okS, ht, ha, hb]
          · cases h
        · split at h
          · rename_i c
            simp only [Bool.and_eq_true, Bool.or_eq_true, beq_iff_eq, List.isEmpty_iff] at c
            obtain ⟨rfl, c⟩ := c
            rcases c with rfl | rfl | rfl
            · exact ⟨.until, rfl, rfl⟩
            · exact ⟨.up, rfl, rfl⟩
            · exact ⟨.down, rfl, rfl⟩
          · unfold isCounted at h
            split at h
            · rename_i n _
              rw [Bool.and_eq_true, List.contains_iff_mem] at h
              obtain ⟨h1, h2⟩ := h
              simp only [List.mem_cons, List.not_mem_nil, or_false] at h1
              obtain ⟨n, h2, rfl⟩ := isNum_iff.mp h2
              rcases h1 with rfl | rfl | rfl | rfl | rfl
              · exact ⟨.wait n, h2, rfl⟩
              · exact ⟨.rest n, h2, rfl⟩
              · exact ⟨.move n, h2, rfl⟩
              · exact ⟨.ahead n, h2, rfl⟩
              · exact ⟨.set n, h2, rfl⟩
            · cases h
      · cases h
    · rintro ⟨s, h, rfl⟩
      have num : ∀ (x : Str) (n : Int), x ≠ "if" → (["wait", "rest", "move", "ahead", "set"] : List Str).contains x = true → inR ((leastOf x).getD 0) 8 n = true → isStm (d + 1) (.tup [.str x, .int n]) = true := fun x n h1 h2 h3 => by
        simp only [isStm, if_neg h1, List.isEmpty_cons, Bool.false_and, Bool.false_eq_true, if_false]
        simp only [isCounted, h2, Bool.true_and]
        exact isNum_iff.mpr ⟨n, h3, rfl⟩
      cases s with
      | wait n => exact num _ n (by decide +kernel) (by decide +kernel) h
      | rest n => exact num _ n (by decide +kernel) (by decide +kernel) h
      | move n => exact num _ n (by decide +kernel) (by decide +kernel) h
      | ahead n => exact num _ n (by decide +kernel) (by decide +kernel) h
      | set n => exact num _ n (by decide +kernel) (by decide +kernel) h
      | «until» => rfl
      | up => rfl
      | down => rfl
      | ite t a b =>
        simp only [okS, Bool.and_eq_true] at h
        have h1 := isTest_iff.mpr ⟨t, h.1, rfl⟩
        have h2 := (ih (encB a)).mpr ⟨a, by simp only [okB, Bool.and_eq_true]; exact h.2.1, rfl⟩
        have h3 := (ih (encB b)).mpr ⟨b, by simp only [okB, Bool.and_eq_true]; exact h.2.2, rfl⟩
        unfold isBod encB at h2 h3
        simp only [encS, isStm, if_true, h1, h2, h3, Bool.true_and]
theorem isBod_iff {d : Nat} {v : D} : isBod d v = true ↔ ∃ b, okB d b = true ∧ v = encB b := isBod_of (isStm_iff d) v
end Kt
set_option Elab.async false
set_option linter.all false
set_option maxRecDepth 100000
set_option maxHeartbeats 4000000
/-! KtP: promises of the functions that the laws share -/
namespace Kt
open PySem PySem.Spec L2 Pl
/-! ### sizes -/
def bnd : Nat → Nat
  | 0 => 0
  | d + 1 => 8 * (1 + 2 * bnd d)
theorem bnd_mono {a b : Nat} (h : a ≤ b) : bnd a ≤ bnd b := by
  induction h with
  | refl => exact Nat.le_refl _
  | step h ih =>
    rename_i m
    have : ∀ m, bnd m ≤ bnd (m + 1) := fun m => by
      induction m with
      | zero => exact Nat.zero_le _
      | succ m ih => show 8 * (1 + 2 * bnd m) ≤ 8 * (1 + 2 * bnd (m + 1)); omega
    exact Nat.le_trans ih (this m)
theorem listedB_append (a b : List Stm) : listedB (a ++ b) = listedB a ++ listedB b := by
  induction a with
  | nil => rfl
  | cons s r ih => simp only [List.cons_append, listedB, ih, List.append_assoc]
theorem listedS_pos (s : Stm) : 1 ≤ (listedS s).length := by
  cases s <;> simp [listedS]
theorem listed_le {f : Stm → Prop} {n : Nat} (h : ∀ s, f s → (listedS s).length ≤ n) : ∀ b : List Stm, (∀ s ∈ b, f s) → (listedB b).length ≤ b.length * n
  | [], _ => by simp [listedB]
  | s :: r, hb => by
    have h1 := h s (hb s (List.mem_cons_self ..))
    have h2 := listed_le h r fun x hx => hb x (List.mem_cons_of_mem _ hx)
    simp only [listedB, List.length_append, List.length_cons, Nat.add_mul, Nat.one_mul]; omega
theorem okS_bnd : ∀ (d : Nat) (s : Stm), okS (d + 1) s = true → (listedS s).length ≤ 1 + 2 * bnd d
  | d, s, h => by
    have e : ∀ a : List Stm, (decide (a.length ≤ 8) && a.all (okS d)) = true → (listedB a).length ≤ bnd d := fun a ha => by
      rw [Bool.and_eq_true, decide_eq_true_eq, List.all_eq_true] at ha
      cases d with
      | zero =>
        cases a with
        | nil => simp [listedB]
        | cons s r => have := ha.2 s (List.mem_cons_self ..); simp [okS] at this
      | succ d =>
        have := listed_le (f := fun s => okS (d + 1) s = true) (fun s hs => okS_bnd d s hs) a ha.2
        refine Nat.le_trans this (Nat.mul_le_mul_right _ ha.1)
    cases s with
    | ite t a b =>
      simp only [okS, Bool.and_eq_true] at h
      have h1 := e a (by simp only [Bool.and_eq_true]; exact h.2.1)
      have h2 := e b (by simp only [Bool.and_eq_true]; exact h.2.2)
      simp only [listedS, List.length_cons, List.length_append]; omega
    | _ => simp only [listedS, List.length_singleton]; omega
theorem okB_bnd {d : Nat} {b : List Stm} (h : okB d b = true) : (listedB b).length ≤ bnd d := by
  simp only [okB, Bool.and_eq_true, decide_eq_true_eq, List.all_eq_true] at h
  cases d with
  | zero =>
    cases b with
    | nil => simp [listedB]
    | cons s r => have := h.2 s (List.mem_cons_self ..); simp [okS] at this
  | succ d =>
    have := listed_le (f := fun s => okS (d + 1) s = true) (fun s hs => okS_bnd d s hs) b h.2
    exact Nat.le_trans this (Nat.mul_le_mul_right _ h.1)
theorem okS_mono : ∀ {d e : Nat} {s : Stm}, okS d s = true → d ≤ e → okS e s = true
  | 0, _, _, h, _ => by simp [okS] at h
  | d + 1, 0, _, _, h => by omega
  | d + 1, e + 1, s, h, hd => by
    cases s with
    | ite t a b =>
      simp only [okS, Bool.and_eq_true, List.all_eq_true] at h ⊢
      exact ⟨h.1, ⟨h.2.1.1, fun x hx => okS_mono (h.2.1.2 x hx) (by omega)⟩, ⟨h.2.2.1, fun x hx => okS_mono (h.2.2.2 x hx) (by omega)⟩⟩
    | _ => exact h
theorem okB_mono {d e : Nat} {b : List Stm} (h : okB d b = true) (hd : d ≤ e) : okB e b = true := by
  simp only [okB, Bool.and_eq_true, List.all_eq_true] at h ⊢
  exact ⟨h.1, fun x hx => okS_mono (h.2 x hx) hd⟩
theorem okB_iff {d : Nat} {b : List Stm} : okB d b = true ↔ b.length ≤ 8 ∧ ∀ s ∈ b, okS d s = true := by
  simp only [okB, Bool.and_eq_true, decide_eq_true_eq, List.all_eq_true]
theorem okS_ite {d : Nat} {t : Tst} {a b : List Stm} : okS (d + 1) (.ite t a b) = true ↔ okT t = true ∧ okB d a = true ∧ okB d b = true := by
  simp only [okS, okB, Bool.and_eq_true]
/-! ### the library: bodies, lists of statements, loops -/
def bodD : Stm → List D
  | .ite _ a b => [encB a, encB b]
  | _ => []
def φ_bodies_of : PFn := fun ds W Q _ => ∃ s, ds = [encS s] ∧ Q (.lst (bodD s)) W
def φ_listed (d : Nat) : PFn := fun ds W Q _ => ∃ b, ds = [encB b] ∧ okB d b = true ∧ Q (.lst ((listedB b).map encS)) W
/-- how many statements there are -/
def szD : Nat → D → Nat
  | 0, _ => 1
  | d + 1, .tup [_, _, .tup a, .tup b] => 1 + ((a.map (szD d)).sum + (b.map (szD d)).sum)
  | _ + 1, _ => 1
theorem szD_S : ∀ (d : Nat) (s : Stm), okS d s = true → szD d (encS s) = (listedS s).length
  | 0, s, h => by simp [okS] at h
  | d + 1, s, h => by
    have e : ∀ a : List Stm, (∀ s ∈ a, okS d s = true) → ((encSs a).map (szD d)).sum = (listedB a).length := fun a => by
      induction a with
      | nil => intro _; rfl
      | cons s r ih =>
        intro ha
        have h1 := szD_S d s (ha s (List.mem_cons_self ..))
        have h2 := ih fun x hx => ha x (List.mem_cons_of_mem _ hx)
        simp only [encSs, List.map_cons, List.sum_cons, listedB, List.length_append, h1, h2]
    cases s with
    | ite t a b =>
      obtain ⟨_, h1, h2⟩ := okS_ite.mp h
      have e1 := e a (okB_iff.mp h1).2
      have e2 := e b (okB_iff.mp h2).2
      simp only [encS, szD, e1, e2, listedS, List.length_cons, List.length_append]; omega
    | _ => rfl
theorem szD_B {d : Nat} {b : List Stm} (h : okB d b = true) : ((encSs b).map (szD d)).sum = (listedB b).length := by
  replace h := (okB_iff.mp h).2
  induction b with
  | nil => rfl
  | cons s r ih =>
    have h1 := szD_S d s (h s (List.mem_cons_self ..))
    have h2 := ih fun x hx => h x (List.mem_cons_of_mem _ hx)
    simp only [encSs, List.map_cons, List.sum_cons, listedB, List.length_append, h1, h2]
def isLoop (v : D) : Bool := match v with
  | .tup [.int a, .int b, .int c, .tup s] => inR 0 8 a && inR 0 8 b && inR 0 8 c && decide (a ≤ b) && isBod 3 (.tup s) && decide ((s.map (szD 3)).sum ≤ 12)
  | _ => false
theorem isLoop_iff {v : D} : isLoop v = true ↔ ∃ L, okL L = true ∧ v = encL L := by
  constructor
  · intro h
    unfold isLoop at h
    split at h
    · rename_i a b c s
      simp only [Bool.and_eq_true, decide_eq_true_eq] at h
      obtain ⟨⟨⟨⟨⟨h1, h2⟩, h3⟩, h4⟩, h5⟩, h6⟩ := h
      obtain ⟨q, hq, e⟩ := isBod_iff.mp h5
      rw [encB, D.tup.injEq] at e
      subst e
      rw [szD_B hq] at h6
      exact ⟨⟨a, b, c, q⟩, by simp [okL, h1, h2, h3, h4, hq, h6], rfl⟩
    · cases h
  · rintro ⟨⟨a, b, c, q⟩, h, rfl⟩
    simp only [okL, Bool.and_eq_true, decide_eq_true_eq] at h
    obtain ⟨⟨⟨⟨⟨h1, h2⟩, h3⟩, h4⟩, h5⟩, h6⟩ := h
    have h7 := isBod_iff.mpr ⟨q, h5, rfl⟩
    unfold encB at h7
    simp only [encL, encB, isLoop, h1, h2, h3, h4, h7, szD_B h5, h6, decide_true, Bool.and_true]
theorem okL_iff {l : Loop} : okL l = true ↔ (0 ≤ l.least ∧ l.least ≤ l.most ∧ l.most ≤ 8 ∧ 0 ≤ l.first ∧ l.first ≤ 8) ∧ okB 3 l.body = true ∧ (listedB l.body).length ≤ 12 := by
  simp only [okL, inR, Bool.and_eq_true, decide_eq_true_eq]
  constructor
  · rintro ⟨⟨⟨⟨⟨⟨a, b⟩, c, d⟩, e, f⟩, g⟩, h⟩, i⟩
    exact ⟨⟨a, g, d, e, f⟩, h, i⟩
  · rintro ⟨⟨a, g, d, e, f⟩, h, i⟩
    exact ⟨⟨⟨⟨⟨⟨a, by omega⟩, by omega, d⟩, e, f⟩, g⟩, h⟩, i⟩
def φ_is_loop : PFn := fun ds W Q _ => ∃ v, ds = [v] ∧ v.good = true ∧ Q (.bl (isLoop v)) W
def φ_need_loop (C : Addr) : PFn := fun ds W Q E => ∃ v, ds = [v] ∧ v.good = true ∧ (isLoop v = true → Q .non W) ∧ (isLoop v = false → E ⟨.ref C, none⟩ W)
def φ_need_statement_number (C : Addr) : PFn := fun ds W Q E => ∃ L v, ds = [encL L, v] ∧ okL L = true ∧ v.dat = true ∧
  (isNum v 0 ((listedB L.body).length - 1) = true → Q .non W) ∧ (isNum v 0 ((listedB L.body).length - 1) = false → E ⟨.ref C, none⟩ W)
/- the body without the statement of a number -/
mutual
def woS : Stm → Int → Int → Stm
  | .ite t a b, first, gone => .ite t (woB a (first + 1) gone) (woB b (first + 1 + (listedB a).length) gone)
  | .wait n, _, _ => .wait n
  | .rest n, _, _ => .rest n
  | .move n, _, _ => .move n
  | .ahead n, _, _ => .ahead n
  | .set n, _, _ => .set n
  | .until, _, _ => .until
  | .up, _, _ => .up
  | .down, _, _ => .down
def woB : List Stm → Int → Int → List Stm
  | [], _, _ => []
  | s :: r, first, gone => if first = gone then woB r (first + (listedS s).length) gone else woS s first gone :: woB r (first + (listedS s).length) gone
end
mutual
/-- statements before the gone one are told in full -/
theorem woS_ok : ∀ (s : Stm) (d : Nat) (first gone : Int), okS d s = true → okS d (woS s first gone) = true
  | .ite t a b, 0, _, _, h => by simp [okS] at h
  | .ite t a b, d + 1, first, gone, h => by
    obtain ⟨h1, h2, h3⟩ := okS_ite.mp h
    rw [woS]
    exact okS_ite.mpr ⟨h1, (woB_ok a d _ gone h2).1, (woB_ok b d _ gone h3).1⟩
  | .wait n, _, _, _, h => h
  | .rest n, _, _, _, h => h
  | .move n, _, _, _, h => h
  | .ahead n, _, _, _, h => h
  | .set n, _, _, _, h => h
  | .until, _, _, _, h => h
  | .up, _, _, _, h => h
  | .down, _, _, _, h => h
theorem woB_ok : ∀ (b : List Stm) (d : Nat) (first gone : Int), okB d b = true → okB d (woB b first gone) = true ∧ (woB b first gone).length ≤ b.length
  | [], _, _, _, h => ⟨h, Nat.le_refl _⟩
  | s :: r, d, first, gone, h => by
    obtain ⟨h1, h2⟩ := okB_iff.mp h
    have hr : okB d r = true := okB_iff.mpr ⟨by simp at h1; omega, fun x hx => h2 x (List.mem_cons_of_mem _ hx)⟩
    obtain ⟨i1, i2⟩ := woB_ok r d (first + (listedS s).length) gone hr
    rw [woB]
    split
    · exact ⟨i1, by simp; omega⟩
    · have hs := woS_ok s d first gone (h2 s (List.mem_cons_self ..))
      refine ⟨okB_iff.mpr ⟨by simp at h1 ⊢; omega, fun x hx => ?_⟩, by simp; omega⟩
      rcases List.mem_cons.mp hx with rfl | hx
      · exact hs
      · exact (okB_iff.mp i1).2 x hx
end
mutual
/-- how many are left: the gone one is among them, or all are kept -/
theorem woS_size : ∀ (s : Stm) (first gone : Int), (listedS (woS s first gone)).length ≤ (listedS s).length ∧ (first < gone → gone < first + (listedS s).length → (listedS (woS s first gone)).length < (listedS s).length)
  | .ite t a b, first, gone => by
    obtain ⟨a1, a2⟩ := woB_size a (first + 1) gone
    obtain ⟨b1, b2⟩ := woB_size b (first + 1 + (listedB a).length) gone
    simp only [woS, listedS, List.length_cons, List.length_append]
    refine ⟨by omega, fun h1 h2 => ?_⟩
    by_cases h : gone < first + 1 + (listedB a).length
    · have := a2 (by omega) h; omega
    · have := b2 (by omega) (by omega); omega
  | .wait n, _, _ => by simp [woS, listedS]; omega
  | .rest n, _, _ => by simp [woS, listedS]; omega
  | .move n, _, _ => by simp [woS, listedS]; omega
  | .ahead n, _, _ => by simp [woS, listedS]; omega
  | .set n, _, _ => by simp [woS, listedS]; omega
  | .until, _, _ => by simp [woS, listedS]; omega
  | .up, _, _ => by simp [woS, listedS]; omega
  | .down, _, _ => by simp [woS, listedS]; omega
theorem woB_size : ∀ (b : List Stm) (first gone : Int), (listedB (woB b first gone)).length ≤ (listedB b).length ∧ (first ≤ gone → gone < first + (listedB b).length → (listedB (woB b first gone)).length < (listedB b).length)
  | [], first, gone => by simp [woB, listedB]
  | s :: r, first, gone => by
    obtain ⟨a1, a2⟩ := woB_size r (first + (listedS s).length) gone
    obtain ⟨b1, b2⟩ := woS_size s first gone
    have hp := listedS_pos s
    rw [woB]
    split
    · simp only [listedB, List.length_append]
      exact ⟨by omega, fun _ _ => by omega⟩
    · simp only [listedB, List.length_append]
      refine ⟨by omega, fun h1 h2 => ?_⟩
      by_cases h : gone < first + (listedS s).length
      · have := b2 (by omega) h; omega
      · have := a2 (by omega) (by omega); omega
end
def less (L : Loop) (n : Int) : Loop := { L with body := woB L.body 0 n }
theorem less_ok {L : Loop} {n : Int} (h : okL L = true) : okL (less L n) = true := by
  rw [okL_iff] at *
  obtain ⟨h1, h2, h3⟩ := h
  exact ⟨h1, (woB_ok _ _ _ _ h2).1, Nat.le_trans (woB_size _ _ _).1 h3⟩
def φ_body_without (d : Nat) : PFn := fun ds W Q _ => ∃ b first gone, ds = [encB b, .int first, .int gone] ∧ okB d b = true ∧ Q (encB (woB b first gone)) W
def φ_less_one : PFn := fun ds W Q _ => ∃ L n, ds = [encL L, .int n] ∧ okL L = true ∧ Q (encL (less L n)) W
def φ_words_of : PFn := fun ds W Q _ => ∃ L, ds = [encL L] ∧ okL L = true ∧ Q (.lst ((listedB L.body).map fun s => .str (wordS s))) W
def φ_statements (C : Addr) : PFn := fun ds W Q E => ∃ v, ds = [v] ∧ v.good = true ∧ (isLoop v = true → ∃ L, okL L = true ∧ v = encL L ∧ Q (.lst ((listedB L.body).map fun s => .str (wordS s))) W) ∧ (isLoop v = false → E ⟨.ref C, none⟩ W)
def φ_without (C C2 : Addr) : PFn := fun ds W Q E => ∃ v n, ds = [v, n] ∧ v.good = true ∧ n.dat = true ∧ (isLoop v = false → E ⟨.ref C, none⟩ W) ∧
  (isLoop v = true → ∃ L, okL L = true ∧ v = encL L ∧ (isNum n 0 ((listedB L.body).length - 1) = false → E ⟨.ref C2, none⟩ W) ∧ (∀ k, n = .int k → inR 0 ((listedB L.body).length - 1) k = true → Q (encL (less L k)) W))
/-! ### the laws' source of numbers -/
def Src (W : Addr → Option Own) (a : Addr) : Prop := ∃ x y : Int, W a = some (.lst [.int x, .int y])
def Dr (W : Addr → Option Own) (a : Addr) (W' : Addr → Option Own) : Prop := ∃ x y : Int, W' = updW W a (.lst [.int x, .int y])
theorem Dr.src {W W' : Addr → Option Own} {a : Addr} (h : Dr W a W') : Src W' a := by
  obtain ⟨x, y, rfl⟩ := h; exact ⟨x, y, updW_self ..⟩
theorem Dr.trans {W W' W'' : Addr → Option Own} {a : Addr} (h : Dr W a W') (h' : Dr W' a W'') : Dr W a W'' := by
  obtain ⟨x, y, rfl⟩ := h; obtain ⟨z, u, rfl⟩ := h'; exact ⟨z, u, updW_upd ..⟩
theorem Src.dr {W : Addr → Option Own} {a : Addr} (h : Src W a) : Dr W a W := by
  obtain ⟨x, y, h⟩ := h
  refine ⟨x, y, funext fun b => ?_⟩
  unfold updW
  split
  · rename_i e; subst e; exact h
  · rfl
def φ__law_draw : PFn := fun ds W Q _ => ∃ a m, ds = [.adr a, .int m] ∧ 0 < m ∧ m < 2 ^ 200 ∧ Src W a ∧ ∀ d W', 0 ≤ d → d < m → Dr W a W' → Q (.int d) W'
def φ__law_source : PFn := fun ds W Q _ => ∃ (xs : List Int) (k : Int), ds = [.lst (xs.map D.int), .int k] ∧ 0 ≤ k ∧ k ≤ 1000 ∧ ∀ a W', Dr W a W' → W a = none → Q (.adr a) W'
def seqD : D → Option (List D)
  | .lst xs => some xs
  | .tup xs => some xs
  | _ => none
def φ__law_of : PFn := fun ds W Q _ => ∃ a d xs, ds = [.adr a, d] ∧ seqD d = some xs ∧ xs ≠ [] ∧ xs.length ≤ 1000000 ∧ Src W a ∧ ∀ x W', x ∈ xs → Dr W a W' → Q x W'
/-- a statement that the laws draw -/
def simS : Stm → Bool
  | .ite _ _ _ => false
  | .set n => inR 1 8 n
  | .wait n => inR 1 8 n
  | .rest n => inR 1 8 n
  | .move n => inR 1 8 n
  | .ahead n => inR 1 8 n
  | .until => true
  | .up => true
  | .down => true
theorem simS_ok {s : Stm} (h : simS s = true) (d : Nat) : okS (d + 1) s = true := by
  cases s with
  | ite t a b => cases h
  | set n => simp only [simS, inR, Bool.and_eq_true, decide_eq_true_eq] at h; simp only [okS, inR, Bool.and_eq_true, decide_eq_true_eq]; omega
  | _ => exact h
def φ__law_simple : PFn := fun ds W Q _ => ∃ a, ds = [.adr a] ∧ Src W a ∧ ∀ s W', simS s = true → Dr W a W' → Q (encS s) W'
def φ__law_body (d : Nat) : PFn := fun ds W Q _ => ∃ a m, ds = [.adr a, .int d, .int m] ∧ 0 ≤ m ∧ m ≤ 8 ∧ Src W a ∧ ∀ b W', okB d b = true → (b.length : Int) ≤ m → Dr W a W' → Q (encB b) W'
def φ__law_size (d : Nat) : PFn := fun ds W Q _ => ∃ b, ds = [encB b] ∧ okB d b = true ∧ Q (.int (listedB b).length) W
def φ__law_known : PFn := fun ds W Q _ => ∃ a, ds = [.adr a] ∧ Src W a ∧ ∀ b W', okB 2 b = true → b.length ≤ 3 → Dr W a W' → Q (encB b) W'
def φ__law_bent : PFn := fun ds W Q _ => ∃ a b, ds = [.adr a, encB b] ∧ okB 3 b = true ∧ b.length ≤ 7 ∧ Src W a ∧ ∀ b' W', okB 3 b' = true → Dr W a W' → Q (encB b') W'
def lawL (L : Loop) : Prop := okL L = true ∧ L.least ≤ 2 ∧ L.most ≤ L.least + 3 ∧ L.first ≤ 5
def φ__law_loop : PFn := fun ds W Q _ => ∃ a, ds = [.adr a] ∧ Src W a ∧ ∀ L W', lawL L → Dr W a W' → Q (encL L) W'
def φ__law_cut (d : Nat) : PFn := fun ds W Q _ => ∃ b first gone, ds = [encB b, .int first, .int gone] ∧ okB d b = true ∧ Q (encB (woB b first gone)) W
def φ__law_less : PFn := φ_less_one
/-- loops' bodies that are known to be interesting -/
def knL (n m : Int) : List (List Stm) := [[.until, .move n], [.until, .ahead n], [.rest n], [.wait m], [.until, .set n], [.move n, .until, .ite .due [.wait m] []], [.until, .move n, .ite (.late m) [.set 0] []],
  [.ite .due [.ahead n, .wait m] [.until, .move n]], [.rest m, .until, .set n], [.ite .flag [.down, .wait m] [.up], .until, .ahead n]]
theorem knL_ok {n m : Int} (h1 : 1 ≤ n) (h2 : n ≤ 8) (h3 : 1 ≤ m) (h4 : m ≤ 8) : ∀ b ∈ knL n m, okB 2 b = true ∧ b.length ≤ 3 := by
  have e1 : inR 0 8 n = true := by simp only [inR, Bool.and_eq_true, decide_eq_true_eq]; omega
  have e2 : inR 1 8 n = true := by simp only [inR, Bool.and_eq_true, decide_eq_true_eq]; omega
  have e3 : inR 0 8 m = true := by simp only [inR, Bool.and_eq_true, decide_eq_true_eq]; omega
  have e4 : inR 1 8 m = true := by simp only [inR, Bool.and_eq_true, decide_eq_true_eq]; omega
  have e0 : inR 0 8 0 = true := by decide
  intro b hb
  simp only [knL, List.mem_cons, List.not_mem_nil, or_false] at hb
  rcases hb with rfl | rfl | rfl | rfl | rfl | rfl | rfl | rfl | rfl | rfl <;> simp [okB, okS, okT, e0, e1, e2, e3, e4]
def φ__law_refused : PFn := fun ds W Q _ => ∃ L v, ds = [encL L, v] ∧ okL L = true ∧ v.dat = true ∧ isNum v 0 ((listedB L.body).length - 1) = false ∧ Q (.bl true) W
/-- a law: it answers True -/
def φ_law : PFn := fun ds _ Q _ => ∃ xs : List Int, ds = [.lst (xs.map D.int)] ∧ xs.length ≤ 63 ∧ ∀ W', Q (.bl true) W'
end Kt
set_option Elab.async false
set_option linter.all false
set_option maxRecDepth 100000
set_option maxHeartbeats 4000000
/-! KtR: rows, what loops look at, how far they go -/
namespace Kt
open PySem PySem.Spec L2 Pl
def isRow (L : Loop) (v : D) : Bool := match v with
  | .tup [.int g, .tup ts] => decide (1 ≤ g) && ts.all fun t => isNum t (g * L.least) (g * L.most)
  | _ => false
/-- a row within the bounds that is_row asks for -/
def isRowB (L : Loop) (v : D) : Bool := match v with
  | .tup [.int g, .tup ts] => decide (1 ≤ g) && (ts.all fun t => isNum t (g * L.least) (g * L.most)) && (decide (g ≤ 10 ^ 30) && decide (ts.length ≤ 40))
  | _ => false
def shortRow (v : D) : Prop := ∀ g ts, v = .tup [g, .tup ts] → ts.length ≤ 1000000
def φ_is_time : PFn := fun ds W Q _ => ∃ L g v, ds = [encL L, .int g, v] ∧ okL L = true ∧ v.dat = true ∧ Q (.bl (isNum v (g * L.least) (g * L.most))) W
def φ_is_good_row : PFn := fun ds W Q _ => ∃ L v, ds = [encL L, v] ∧ okL L = true ∧ v.good = true ∧ shortRow v ∧ Q (.bl (isRow L v)) W
def φ_is_row (C : Addr) : PFn := fun ds W Q E => ∃ l v, ds = [l, v] ∧ l.good = true ∧ v.good = true ∧ shortRow v ∧ (isLoop l = false → E ⟨.ref C, none⟩ W) ∧ (isLoop l = true → ∃ L, okL L = true ∧ l = encL L ∧ Q (.bl (isRowB L v)) W)
def looksS : Stm → Bool
  | .until => true
  | .ahead _ => true
  | .ite .due _ _ => true
  | .ite (.late _) _ _ => true
  | _ => false
def lookL (L : Loop) : Bool := (listedB L.body).any looksS
def φ_is_looking : PFn := fun ds W Q _ => ∃ L, ds = [encL L] ∧ okL L = true ∧ Q (.bl (lookL L)) W
def φ_looks (C : Addr) : PFn := fun ds W Q E => ∃ l, ds = [l] ∧ l.good = true ∧ (isLoop l = false → E ⟨.ref C, none⟩ W) ∧ (isLoop l = true → ∃ L, okL L = true ∧ l = encL L ∧ Q (.bl (lookL L)) W)
def spanS : Stm → Int
  | .wait n => n
  | .rest n => n
  | .move n => n
  | _ => 0
def spanL (L : Loop) : Int := ((listedB L.body).map spanS).sum
def farL (L : Loop) : Int := 12 + 4 * (L.most + spanL L)
def φ_far_of : PFn := fun ds W Q _ => ∃ L, ds = [encL L] ∧ okL L = true ∧ Q (.int (farL L)) W
def φ_far (C : Addr) : PFn := fun ds W Q E => ∃ l, ds = [l] ∧ l.good = true ∧ (isLoop l = false → E ⟨.ref C, none⟩ W) ∧ (isLoop l = true → ∃ L, okL L = true ∧ l = encL L ∧ Q (.int (farL L)) W)
/-! ### the least numbers, as the laws write them -/
def lowN (x : Str) : Int := if x = "wait" then 1 else if x = "rest" then 1 else if x = "move" then 1 else if x = "ahead" then 1 else if x = "set" then 0 else 9
def lowPs : List (D × D) := [(.str "wait", .int 1), (.str "rest", .int 1), (.str "move", .int 1), (.str "ahead", .int 1), (.str "set", .int 0)]
theorem low_merge : mergeD ([], []) lowPs = ([.str "wait", .str "rest", .str "move", .str "ahead", .str "set"], [.int 1, .int 1, .int 1, .int 1, .int 0]) := by
  have f01 : (("wait" : Str) == "rest") = false := by decide +kernel
  have f02 : (("wait" : Str) == "move") = false := by decide +kernel
  have f03 : (("wait" : Str) == "ahead") = false := by decide +kernel
  have f04 : (("wait" : Str) == "set") = false := by decide +kernel
  have f12 : (("rest" : Str) == "move") = false := by decide +kernel
  have f13 : (("rest" : Str) == "ahead") = false := by decide +kernel
  have f14 : (("rest" : Str) == "set") = false := by decide +kernel
  have f23 : (("move" : Str) == "ahead") = false := by decide +kernel
  have f24 : (("move" : Str) == "set") = false := by decide +kernel
  have f34 : (("ahead" : Str) == "set") = false := by decide +kernel
  simp only [mergeD, lowPs, List.foldl_cons, List.foldl_nil, dput, List.any_cons, List.any_nil, eqD_str, Bool.or_false, Bool.false_eq_true, if_false, List.nil_append, List.cons_append, f01, f02, f03, f04, f12, f13, f14, f23, f24, f34]
theorem low_get (x : Str) : (dget (mergeD ([], []) lowPs).1 (mergeD ([], []) lowPs).2 (.str x)).getD (.int 9) = .int (lowN x) := by
  rw [low_merge]
  unfold lowN dget
  simp only [List.zip_cons_cons, List.zip_nil_right, List.find?_cons, List.find?_nil, eqD_str]
  by_cases h1 : x = "wait"
  · subst h1; simp
  · rw [if_neg h1, show (("wait" : Str) == x) = false from by simpa [beq_eq_false_iff_ne] using Ne.symm h1]
    by_cases h2 : x = "rest"
    · subst h2; simp
    · rw [if_neg h2, show (("rest" : Str) == x) = false from by simpa [beq_eq_false_iff_ne] using Ne.symm h2]
      by_cases h3 : x = "move"
      · subst h3; simp
      · rw [if_neg h3, show (("move" : Str) == x) = false from by simpa [beq_eq_false_iff_ne] using Ne.symm h3]
        by_cases h4 : x = "ahead"
        · subst h4; simp
        · rw [if_neg h4, show (("ahead" : Str) == x) = false from by simpa [beq_eq_false_iff_ne] using Ne.symm h4]
          by_cases h5 : x = "set"
          · subst h5; simp
          · rw [if_neg h5, show (("set" : Str) == x) = false from by simpa [beq_eq_false_iff_ne] using Ne.symm h5]
            rfl
theorem low_counted (x : Str) (v : D) : isNum v (lowN x) 8 = isCounted x [v] ["wait", "rest", "move", "ahead", "set"] := by
  unfold isCounted lowN
  by_cases h1 : x = "wait"
  · subst h1; have e : leastOf "wait" = some 1 := (by decide +kernel); simp [e]
  · by_cases h2 : x = "rest"
    · subst h2; have e : leastOf "rest" = some 1 := (by decide +kernel); simp [e]
    · by_cases h3 : x = "move"
      · subst h3; have e : leastOf "move" = some 1 := (by decide +kernel); simp [e]
      · by_cases h4 : x = "ahead"
        · subst h4; have e : leastOf "ahead" = some 1 := (by decide +kernel); simp [e]
        · by_cases h5 : x = "set"
          · subst h5; have e : leastOf "set" = some 0 := (by decide +kernel); rw [if_neg h1, if_neg h2, if_neg h3, if_neg h4]; simp [e]
          · have : (["wait", "rest", "move", "ahead", "set"] : List Str).contains x = false := by simp [h1, h2, h3, h4, h5]
            rw [this, if_neg h1, if_neg h2, if_neg h3, if_neg h4, if_neg h5]
            unfold isNum
            cases v <;> simp
            omega
theorem not_counted (x : Str) (r : List D) (h : x = "until" ∨ x = "up" ∨ x = "down") : isCounted x r ["wait", "rest", "move", "ahead", "set"] = false := by
  have e : (["wait", "rest", "move", "ahead", "set"] : List Str).contains x = false := by rcases h with rfl | rfl | rfl <;> decide +kernel
  unfold isCounted
  split
  · rw [e]; rfl
  · rfl
/-! ### values of any kind, small -/
mutual
def wdD : D → Nat
  | .tup xs => max xs.length (wdDs xs)
  | .lst xs => max xs.length (wdDs xs)
  | _ => 0
def wdDs : List D → Nat
  | [] => 0
  | x :: r => max (wdD x) (wdDs r)
end
/-- good, of depth at most n, no part longer than m -/
def okV (n m : Nat) (v : D) : Bool := v.gd n && decide (wdD v ≤ m)
theorem wdDs_le {m : Nat} : ∀ {xs : List D}, wdDs xs ≤ m ↔ ∀ x ∈ xs, wdD x ≤ m
  | [] => by simp [wdDs]
  | x :: r => by
    have ih := wdDs_le (m := m) (xs := r)
    simp only [wdDs, List.mem_cons, forall_eq_or_imp, Nat.max_le, ih]
theorem okV_tup {n m : Nat} {xs : List D} : okV (n + 1) m (.tup xs) = true ↔ xs.length ≤ m ∧ ∀ x ∈ xs, okV n m x = true := by
  simp only [okV, gd_tup, wdD, Bool.and_eq_true, decide_eq_true_eq, Nat.max_le, wdDs_le, List.all_eq_true]
  constructor
  · rintro ⟨h1, h2, h3⟩
    exact ⟨h2, fun x hx => ⟨h1 x hx, h3 x hx⟩⟩
  · rintro ⟨h1, h2⟩
    exact ⟨fun x hx => (h2 x hx).1, h1, fun x hx => (h2 x hx).2⟩
theorem okV_lst {n m : Nat} {xs : List D} : okV (n + 1) m (.lst xs) = true ↔ xs.length ≤ m ∧ ∀ x ∈ xs, okV n m x = true := by
  simp only [okV, gd_lst, wdD, Bool.and_eq_true, decide_eq_true_eq, Nat.max_le, wdDs_le, List.all_eq_true]
  constructor
  · rintro ⟨h1, h2, h3⟩
    exact ⟨h2, fun x hx => ⟨h1 x hx, h3 x hx⟩⟩
  · rintro ⟨h1, h2⟩
    exact ⟨fun x hx => (h2 x hx).1, h1, fun x hx => (h2 x hx).2⟩
theorem okV_mono {n m a b : Nat} {v : D} (h : okV n m v = true) (h1 : n ≤ a) (h2 : m ≤ b) : okV a b v = true := by
  simp only [okV, Bool.and_eq_true, decide_eq_true_eq] at h ⊢
  exact ⟨gd_mono h.1 h1, by omega⟩
theorem okV_good {n m : Nat} {v : D} (h : okV n m v = true) (hn : n ≤ 60) : v.good = true := by
  simp only [okV, Bool.and_eq_true] at h
  exact gd_good h.1 hn
end Kt
set_option Elab.async false
set_option linter.all false
set_option maxRecDepth 100000
set_option maxHeartbeats 4000000
/-! KtQ: rounds of a loop -/
namespace Kt
open PySem PySem.Spec L2 Pl
structure Rn where
  gone : Int
  late : Int
  flag : Bool
  nums : List Int
def encR (r : Rn) : D := .tup [.int r.gone, .int r.late, .bl r.flag, .tup (r.nums.map D.int)]
def holdsT (t : Tst) (late : Int) (flag : Bool) (g : Int) : Bool := match t with
  | .flag => flag
  | .due => decide (0 ≤ late)
  | .late n => decide (g * n < late)
def waitS (s : Stm) (gone late g : Int) : Int := match s with
  | .wait n => g * n
  | .until => if -late > 0 then -late else 0
  | .rest n => if g * n - gone > 0 then g * n - gone else 0
  | _ => 0
def markS (s : Stm) (late g : Int) : Int := match s with
  | .set n => -g * n
  | .move n => late - g * n
  | .ahead n => if 0 ≤ late then late - g * n * (late / (g * n) + 1) else late
  | _ => late
mutual
def runS : Stm → Int → Rn → Int → Rn
  | .ite t a b, first, r, g => if holdsT t r.late r.flag g = true then runB a (first + 1) { r with nums := r.nums ++ [first] } g else runB b (first + 1 + (listedB a).length) { r with nums := r.nums ++ [first] } g
  | .up, first, r, _ => { r with flag := true, nums := r.nums ++ [first] }
  | .down, first, r, _ => { r with flag := false, nums := r.nums ++ [first] }
  | .wait n, first, r, g => ⟨r.gone + waitS (.wait n) r.gone r.late g, markS (.wait n) (r.late + waitS (.wait n) r.gone r.late g) g, r.flag, r.nums ++ [first]⟩
  | .rest n, first, r, g => ⟨r.gone + waitS (.rest n) r.gone r.late g, markS (.rest n) (r.late + waitS (.rest n) r.gone r.late g) g, r.flag, r.nums ++ [first]⟩
  | .move n, first, r, g => ⟨r.gone + waitS (.move n) r.gone r.late g, markS (.move n) (r.late + waitS (.move n) r.gone r.late g) g, r.flag, r.nums ++ [first]⟩
  | .ahead n, first, r, g => ⟨r.gone + waitS (.ahead n) r.gone r.late g, markS (.ahead n) (r.late + waitS (.ahead n) r.gone r.late g) g, r.flag, r.nums ++ [first]⟩
  | .set n, first, r, g => ⟨r.gone + waitS (.set n) r.gone r.late g, markS (.set n) (r.late + waitS (.set n) r.gone r.late g) g, r.flag, r.nums ++ [first]⟩
  | .until, first, r, g => ⟨r.gone + waitS .until r.gone r.late g, markS .until (r.late + waitS .until r.gone r.late g) g, r.flag, r.nums ++ [first]⟩
def runB : List Stm → Int → Rn → Int → Rn
  | [], _, r, _ => r
  | s :: rest, first, r, g => runB rest (first + (listedS s).length) (runS s first r g) g
end
/-- the grids at which 'ahead' is computed -/
def gridOk (g : Int) : Stm → Bool
  | .ahead n => decide (g * n < 2 ^ 64)
  | _ => true
def isIte : Stm → Bool
  | .ite _ _ _ => true
  | _ => false
def φ_holds : PFn := fun ds W Q _ => ∃ t late flag g, ds = [encT t, .int late, .bl flag, .int g] ∧ okT t = true ∧ Q (.bl (holdsT t late flag g)) W
def φ_waited : PFn := fun ds W Q _ => ∃ s gone late g d, ds = [encS s, .int gone, .int late, .int g] ∧ okS d s = true ∧ Q (.int (waitS s gone late g)) W
def φ_marked : PFn := fun ds W Q _ => ∃ s late g d, ds = [encS s, .int late, .int g] ∧ okS d s = true ∧ 1 ≤ g ∧ gridOk g s = true ∧ Q (.int (markS s late g)) W
def φ_begun : PFn := fun ds W Q _ => ∃ L g, ds = [encL L, .int g] ∧ okL L = true ∧ Q (.tup [.int 0, .int (-g * L.first), .bl false]) W
def φ_body_done (d : Nat) : PFn := fun ds W Q _ => ∃ b first r g, ds = [encB b, .int first, encR r, .int g] ∧ okB d b = true ∧ 1 ≤ g ∧ (∀ s ∈ listedB b, gridOk g s = true) ∧ r.nums.length + (listedB b).length ≤ 1000000 ∧ Q (encR (runB b first r g)) W
def φ_need_row (C C2 : Addr) : PFn := fun ds W Q E => ∃ l v, ds = [l, v] ∧ l.good = true ∧ v.good = true ∧ shortRow v ∧ (isLoop l = false → E ⟨.ref C, none⟩ W) ∧ (isLoop l = true → ∃ L, okL L = true ∧ l = encL L ∧ (isRow L v = true → Q .non W) ∧ (isRow L v = false → E ⟨.ref C2, none⟩ W))
end Kt
set_option Elab.async false
set_option linter.all false
set_option maxRecDepth 8000
set_option maxHeartbeats 1000000
/-! KtS: the checks of the library as functions, by the promises of the first reading -/
namespace Kt
open PySem PySem.Spec L2 Pl
def okO (Q : D → Wt → Prop) (E : Exn → Wt → Prop) : Out → Prop
  | .rt d W => Q d W
  | .ex x W => E x W
  | .bad => False
theorem φR_ok {F : RFn} {ds : List D} {W : Wt} {Q : D → Wt → Prop} {E : Exn → Wt → Prop} : φR F ds W Q E = okO Q E (F ds W) := by
  unfold φR okO
  cases F ds W <;> rfl
/-- a function told by a parse of its arguments, a check, an answer -/
def SP {α : Type} (p : List D → Option α) (c : α → Bool) (o : α → Wt → Out) : RFn := fun ds W => match p ds with
  | some a => if c a = true then o a W else .bad
  | none => .bad
theorem SP_wk {α : Type} {p : List D → Option α} {c : α → Bool} {o : α → Wt → Out} {φ : PFn} (h : ∀ ds a W Q E, p ds = some a → c a = true → okO Q E (o a W) → φ ds W Q E) : ∀ ds W Q E, φR (SP p c o) ds W Q E → φ ds W Q E := fun ds W Q E q => by
  rw [φR_ok] at q
  unfold SP at q
  split at q
  · rename_i a e
    split at q
    · rename_i hc; exact h ds a W Q E e hc q
    · exact q.elim
  · exact q.elim
def a1 : List D → Option D
  | [v] => some v
  | _ => none
def a2 : List D → Option (D × D)
  | [u, v] => some (u, v)
  | _ => none
def avi : List D → Option (D × Int)
  | [v, .int a] => some (v, a)
  | _ => none
def avii : List D → Option (D × Int × Int)
  | [v, .int a, .int b] => some (v, a, b)
  | _ => none
theorem a1_ok {ds : List D} {v : D} (h : a1 ds = some v) : ds = [v] := by
  unfold a1 at h; split at h <;> simp_all
theorem a2_ok {ds : List D} {v : D × D} (h : a2 ds = some v) : ds = [v.1, v.2] := by
  unfold a2 at h; split at h <;> simp_all
  obtain rfl := h; exact ⟨rfl, rfl⟩
theorem avi_ok {ds : List D} {v : D × Int} (h : avi ds = some v) : ds = [v.1, .int v.2] := by
  unfold avi at h; split at h <;> simp_all
  obtain rfl := h; exact ⟨rfl, rfl⟩
theorem avii_ok {ds : List D} {v : D × Int × Int} (h : avii ds = some v) : ds = [v.1, .int v.2.1, .int v.2.2] := by
  unfold avii at h; split at h <;> simp_all
  obtain rfl := h; exact ⟨rfl, rfl, rfl⟩
def S_is_number : RFn := SP avii (fun v => v.1.dat) fun v W => .rt (.bl (isNum v.1 v.2.1 v.2.2)) W
theorem S_is_number_wk : ∀ ds W Q E, φR S_is_number ds W Q E → φ_is_number ds W Q E := SP_wk fun ds v W Q E e c q => ⟨_, _, _, avii_ok e, c, q⟩
def S_is_test : RFn := SP a1 (fun v => v.good) fun v W => .rt (.bl (isTest v)) W
theorem S_is_test_wk : ∀ ds W Q E, φR S_is_test ds W Q E → φ_is_test ds W Q E := SP_wk fun ds v W Q E e c q => ⟨_, a1_ok e, c, q⟩
def S_is_statement (d : Nat) : RFn := SP avi (fun v => v.1.good && decide (v.2 = d)) fun v W => .rt (.bl (isStm d v.1)) W
theorem S_is_statement_wk (d : Nat) : ∀ ds W Q E, φR (S_is_statement d) ds W Q E → φ_is_statement d ds W Q E := SP_wk fun ds v W Q E e c q => by
  rw [Bool.and_eq_true, decide_eq_true_eq] at c
  have := avi_ok e
  rw [c.2] at this
  exact ⟨_, this, c.1, q⟩
def S_is_loop : RFn := SP a1 (fun v => v.good) fun v W => .rt (.bl (isLoop v)) W
theorem S_is_loop_wk : ∀ ds W Q E, φR S_is_loop ds W Q E → φ_is_loop ds W Q E := SP_wk fun ds v W Q E e c q => ⟨_, a1_ok e, c, q⟩
def S_need_loop (C : Addr) : RFn := SP a1 (fun v => v.good) fun v W => if isLoop v = true then .rt .non W else .ex ⟨.ref C, none⟩ W
theorem S_need_loop_wk (C : Addr) : ∀ ds W Q E, φR (S_need_loop C) ds W Q E → φ_need_loop C ds W Q E := SP_wk fun ds v W Q E e c q => by
  refine ⟨_, a1_ok e, c, fun h => ?_, fun h => ?_⟩
  · rw [h, if_pos rfl] at q; exact q
  · rw [h, if_neg Bool.false_ne_true] at q; exact q
def isRowD (l v : D) : Bool := match l with
  | .tup (.int a :: .int b :: _) => isRow ⟨a, b, 0, []⟩ v
  | _ => false
theorem isRowD_L (L : Loop) (v : D) : isRowD (encL L) v = isRow L v := rfl
def shortB (v : D) : Bool := match v with
  | .tup [_, .tup ts] => decide (ts.length ≤ 1000000)
  | _ => true
theorem shortB_ok {v : D} (h : shortB v = true) : shortRow v := by
  rintro g ts rfl
  simpa [shortB] using h
/-- need_row, told by what it says -/
def S_need_row (C C2 : Addr) : RFn := SP a2 (fun v => v.1.good && (v.2.good && shortB v.2)) fun v W => if isLoop v.1 = true then (if isRowD v.1 v.2 = true then .rt .non W else .ex ⟨.ref C2, none⟩ W) else .ex ⟨.ref C, none⟩ W
theorem S_need_row_wk (C C2 : Addr) : ∀ ds W Q E, φR (S_need_row C C2) ds W Q E → φ_need_row C C2 ds W Q E := SP_wk fun ds v W Q E e c q => by
  simp only [Bool.and_eq_true] at c
  refine ⟨_, _, a2_ok e, c.1, c.2.1, shortB_ok c.2.2, fun h => ?_, fun h => ?_⟩
  · rw [h, if_neg Bool.false_ne_true] at q; exact q
  · rw [h, if_pos rfl] at q
    obtain ⟨L, hL, e2⟩ := isLoop_iff.mp h
    refine ⟨L, hL, e2, fun h1 => ?_, fun h1 => ?_⟩
    · rw [e2, isRowD_L, h1, if_pos rfl] at q; exact q
    · rw [e2, isRowD_L, h1, if_neg Bool.false_ne_true] at q; exact q
def S_is_good_row : RFn := SP a2 (fun v => isLoop v.1 && (v.2.good && shortB v.2)) fun v W => .rt (.bl (isRowD v.1 v.2)) W
theorem S_is_good_row_wk : ∀ ds W Q E, φR S_is_good_row ds W Q E → φ_is_good_row ds W Q E := SP_wk fun ds v W Q E e c q => by
  simp only [Bool.and_eq_true] at c
  obtain ⟨L, hL, e2⟩ := isLoop_iff.mp c.1
  refine ⟨L, v.2, by rw [a2_ok e, e2], hL, c.2.1, shortB_ok c.2.2, ?_⟩
  rw [e2, isRowD_L] at q
  exact q
/-- how many statements the body of a loop has -/
def sizeD (l : D) : Int := match l with
  | .tup [_, _, _, .tup s] => ((s.map (szD 3)).sum : Nat)
  | _ => 0
theorem sizeD_L {L : Loop} (h : okL L = true) : sizeD (encL L) = (listedB L.body).length := by
  obtain ⟨_, h2, _⟩ := okL_iff.mp h
  show (((encSs L.body).map (szD 3)).sum : Int) = _
  rw [szD_B h2]
def S_need_statement_number (C : Addr) : RFn := SP a2 (fun v => isLoop v.1 && v.2.dat) fun v W => if isNum v.2 0 (sizeD v.1 - 1) = true then .rt .non W else .ex ⟨.ref C, none⟩ W
theorem S_need_statement_number_wk (C : Addr) : ∀ ds W Q E, φR (S_need_statement_number C) ds W Q E → φ_need_statement_number C ds W Q E := SP_wk fun ds v W Q E e c q => by
  simp only [Bool.and_eq_true] at c
  obtain ⟨L, hL, e2⟩ := isLoop_iff.mp c.1
  rw [e2, sizeD_L hL] at q
  refine ⟨L, v.2, by rw [a2_ok e, e2], hL, c.2, fun h => ?_, fun h => ?_⟩
  · rw [h, if_pos rfl] at q; exact q
  · rw [h, if_neg Bool.false_ne_true] at q; exact q
/-! what they tell -/
theorem S_need_row_L {L : Loop} {v : D} {C C2 : Addr} {W : Wt} (h : okL L = true) (hv : v.good = true) (hs : shortB v = true) : S_need_row C C2 [encL L, v] W = if isRow L v = true then .rt .non W else .ex ⟨.ref C2, none⟩ W := by
  have h1 := isLoop_iff.mpr ⟨L, h, rfl⟩
  have h2 := good_L h
  simp only [S_need_row, SP, a2, h1, h2, hv, hs, Bool.and_self, if_true, isRowD_L]
  rfl
theorem S_need_loop_L {L : Loop} {C : Addr} {W : Wt} (h : okL L = true) : S_need_loop C [encL L] W = .rt .non W := by
  have h1 := isLoop_iff.mpr ⟨L, h, rfl⟩
  have h2 := good_L h
  simp only [S_need_loop, SP, a1, h1, h2, if_true]
theorem S_is_loop_v {v : D} {W : Wt} (h : v.good = true) : S_is_loop [v] W = .rt (.bl (isLoop v)) W := by
  simp only [S_is_loop, SP, a1, h, if_true]
end Kt
set_option Elab.async false
set_option linter.all false
set_option maxRecDepth 100000
set_option maxHeartbeats 4000000
/-! PlN: shared own objects that are no longer changed, or no longer wanted -/
namespace Pl
open PySem PySem.Spec L2
def dropW (W : Wt) (a : Addr) : Wt := fun b => if b = a then none else W b
def pFrzW (te : PTE) : PTE := fun S Q E => te S (fun d S1 => ∃ a xs, d = .adr a ∧ S1.W a = some (.lst xs) ∧ Q (.lst xs) ⟨S1.ρ, dropW S1.W a⟩) E
/-- what stands when an own object of W is frozen -/
theorem Rel.frozenW {K : PySem.W.Frag} {H : Hp} {σ : St} {S : Sta} {a : Addr} {o : Own} {u : HO} {ob : Obj} (r : Rel K H σ S) (e : S.W a = some o) (hu : H a = some u) :
    Nx σ S H σ ⟨S.ρ, dropW S.W a⟩ (upd H a (.frz ob u)) ∧ Rel K (upd H a (.frz ob u)) σ ⟨S.ρ, dropW S.W a⟩ := by
  have wa : Oa σ S a := .inr (by rw [e]; exact fun z => nomatch z)
  obtain ⟨u', e', np, _⟩ := r.known wa
  have st : ∀ {A : Addr → Prop}, A a → Step A H (upd H a (.frz ob u)) := fun {A} ha b w eb q => by
    by_cases hb : b = a
    · subst hb
      rw [hu] at e' eb; cases e'; cases eb
      rcases q with q | q
      · exact absurd q np
      · exact absurd ha q
    · rw [upd_ne hb]; exact eb
  have sa := st (A := fun x => x = a) rfl
  refine ⟨⟨st wa, fun b h => ?_, fun x h => ?_⟩, ⟨r.len, fun i s es => ?_, r.inj, fun b o' h => ?_, fun i b h => ?_⟩⟩
  · by_cases hb : b = a
    · subst hb; rw [upd_same] at h; cases h
    · rw [upd_ne hb] at h; exact h
  · rcases h with h | h
    · exact .inl (.inl h)
    · refine .inl (.inr fun z => h ?_)
      show (if x = a then none else S.W x) = none
      rw [z]; split <;> rfl
  · have q := r.slot i s es
    cases s with
    | emp => trivial
    | val d => obtain ⟨v, h1, h2⟩ := q; exact ⟨v, h1, h2.step sa⟩
    | own o' =>
      obtain ⟨b, h1, h2⟩ := q
      refine ⟨b, h1, h2.step sa fun z => ?_⟩
      have z' : b = a := z
      subst z'
      have := r.dis i b ⟨⟨o', es⟩, h1⟩
      rw [this] at e; cases e
  · have h' : (if b = a then none else S.W b) = some o' := h
    by_cases hb : b = a
    · rw [if_pos hb] at h'; cases h'
    · rw [if_neg hb] at h'
      exact (r.wor b o' h').step sa hb
  · show (if b = a then none else S.W b) = none
    rw [r.dis i b h]; split <;> rfl
section
variable {X : Cx} {e : Expr} {te : PTE}
theorem pm_frzW (h : PM X e te) : PM X e (pFrzW te) := fun W tk => weakE (pe_frz (h W tk)) fun σ H Q => by
  rintro ⟨S, Q', E', rel, q, up, ux⟩
  refine ⟨S, _, E', rel, q, fun v d H1 S1 n1 r1 p1 q1 => ?_, ux⟩
  obtain ⟨a, xs, rfl, hw, q1⟩ := q1
  cases p1
  obtain ⟨ys, h1, h2⟩ := r1.wor a _ hw
  refine .inr ⟨a, _, rfl, h1, .inl ⟨_, rfl⟩, fun o => ?_⟩
  obtain ⟨n2, r2⟩ := r1.frozenW (ob := o) hw h1
  refine up _ _ _ _ (n1.trans n2) r2 (.lst (.inl ⟨o, upd_same⟩) (h2.step (A := fun x => x = a) fun b w eb q => ?_)) q1
  by_cases hb : b = a
  · subst hb
    rw [h1] at eb; cases eb
    rcases q with q | q
    · exact q.elim
    · exact absurd rfl q
  · rw [upd_ne hb]; exact eb
/-- shared objects that nobody wants any more -/
def pFgt (te : PTE) : PTE := fun S Q E => te S (fun d S1 => ∃ W2 : Wt, (∀ b o, W2 b = some o → S1.W b = some o) ∧ Q d ⟨S1.ρ, W2⟩) E
theorem pm_fgt (h : PM X e te) : PM X e (pFgt te) := fun W tk => weakE (h W tk) fun σ H Q => by
  rintro ⟨S, Q', E', rel, q, up, ux⟩
  refine ⟨S, _, E', rel, q, fun v d H1 S1 n1 r1 p1 q1 => ?_, ux⟩
  obtain ⟨W2, hw, q1⟩ := q1
  have no : ∀ b, S1.W b = none → W2 b = none := fun b z => by
    cases e : W2 b with
    | none => rfl
    | some o => rw [hw b o e] at z; cases z
  refine up v d H1 ⟨S1.ρ, W2⟩ ⟨n1.st, n1.kn, fun x h => ?_⟩ ⟨r1.len, r1.slot, r1.inj, fun b o h => r1.wor b o (hw b o h), fun i b h => no b (r1.dis i b h)⟩ p1 q1
  rcases h with h | h
  · exact n1.oa x (.inl h)
  · exact n1.oa x (.inr fun z => h (no x z))
end
/-! ### functions by choice -/
open Classical in
noncomputable def SC {α : Type} (enc : α → List D) (ok : α → Prop) (res : α → Wt → Out) : RFn := fun ds W => if h : ∃ a, ds = enc a ∧ ok a then res h.choose W else .bad
theorem SC_eq {α : Type} {enc : α → List D} {ok : α → Prop} {res : α → Wt → Out} {a : α} {W : Wt} (hi : ∀ b, enc a = enc b → ok b → res b W = res a W) (h : ok a) : SC enc ok res (enc a) W = res a W := by
  unfold SC
  have hx : ∃ b, enc a = enc b ∧ ok b := ⟨a, rfl, h⟩
  rw [dif_pos hx]
  exact hi _ hx.choose_spec.1 hx.choose_spec.2
theorem SC_wk {α : Type} {enc : α → List D} {ok : α → Prop} {res : α → Wt → Out} {φ : PFn} (h : ∀ a W Q E, ok a → (match res a W with | .rt d W' => Q d W' | .ex x W' => E x W' | .bad => False) → φ (enc a) W Q E) : ∀ ds W Q E, φR (SC enc ok res) ds W Q E → φ ds W Q E := fun ds W Q E q => by
  by_cases hx : ∃ a, ds = enc a ∧ ok a
  · have e : SC enc ok res ds W = res hx.choose W := by unfold SC; rw [dif_pos hx]
    have := h hx.choose W Q E hx.choose_spec.2 (by
      unfold φR at q
      rw [e] at q
      exact q)
    rw [← hx.choose_spec.1] at this
    exact this
  · have e : SC enc ok res ds W = .bad := by unfold SC; rw [dif_neg hx]
    unfold φR at q
    rw [e] at q
    exact q.elim
end Pl
set_option Elab.async false
set_option linter.all false
set_option maxRecDepth 8000
set_option maxHeartbeats 1000000
/-! KtI: images tell what they are images of -/
namespace Kt
open PySem PySem.Spec L2 Pl
def idxW (x : Str) : Nat := if x == "wait" then 0 else if x == "rest" then 1 else if x == "move" then 2 else if x == "ahead" then 3 else if x == "set" then 4 else if x == "until" then 5 else if x == "up" then 6 else if x == "down" then 7 else 8
def idxS : Stm → Nat
  | .wait _ => 0
  | .rest _ => 1
  | .move _ => 2
  | .ahead _ => 3
  | .set _ => 4
  | .until => 5
  | .up => 6
  | .down => 7
  | .ite _ _ _ => 8
theorem idx_ok (s : Stm) : idxW (wordS s) = idxS s := by
  cases s with
  | wait n => show idxW "wait" = 0; decide +kernel
  | rest n => show idxW "rest" = 1; decide +kernel
  | move n => show idxW "move" = 2; decide +kernel
  | ahead n => show idxW "ahead" = 3; decide +kernel
  | set n => show idxW "set" = 4; decide +kernel
  | «until» => show idxW "until" = 5; decide +kernel
  | up => show idxW "up" = 6; decide +kernel
  | down => show idxW "down" = 7; decide +kernel
  | ite t a b => show idxW "if" = 8; decide +kernel
def wordD (d : D) : Str := match d with
  | .tup (.str x :: _) => x
  | _ => ""
theorem wordD_S (s : Stm) : wordD (encS s) = wordS s := by cases s <;> rfl
theorem idx_of {s t : Stm} (h : encS s = encS t) : idxS s = idxS t := by rw [← idx_ok, ← idx_ok, ← wordD_S, ← wordD_S, h]
theorem encT_inj {s t : Tst} (h : encT s = encT t) : s = t := by
  have n1 : (("due" : Str) = "flag") = False := eq_false (by decide +kernel)
  have n2 : (("flag" : Str) = "due") = False := eq_false (by decide +kernel)
  cases s <;> cases t <;> simp_all [encT]
mutual
theorem encS_inj : ∀ s t : Stm, encS s = encS t → s = t
  | .wait n, t, h => by
    have := idx_of h
    cases t <;> first | (simp only [encS, D.tup.injEq, List.cons.injEq, D.int.injEq, and_true, true_and] at h; rw [h]) | cases this
  | .rest n, t, h => by
    have := idx_of h
    cases t <;> first | cases this; done | (simp only [encS, D.tup.injEq, List.cons.injEq, D.int.injEq, and_true, true_and] at h; rw [h])
  | .move n, t, h => by
    have := idx_of h
    cases t <;> first | cases this; done | (simp only [encS, D.tup.injEq, List.cons.injEq, D.int.injEq, and_true, true_and] at h; rw [h])
  | .ahead n, t, h => by
    have := idx_of h
    cases t <;> first | cases this; done | (simp only [encS, D.tup.injEq, List.cons.injEq, D.int.injEq, and_true, true_and] at h; rw [h])
  | .set n, t, h => by
    have := idx_of h
    cases t <;> first | cases this; done | (simp only [encS, D.tup.injEq, List.cons.injEq, D.int.injEq, and_true, true_and] at h; rw [h])
  | .until, t, h => by
    have := idx_of h
    cases t <;> first | rfl | cases this
  | .up, t, h => by
    have := idx_of h
    cases t <;> first | rfl | cases this
  | .down, t, h => by
    have := idx_of h
    cases t <;> first | rfl | cases this
  | .ite u a b, t, h => by
    have := idx_of h
    cases t with
    | ite u' a' b' =>
      simp only [encS, D.tup.injEq, List.cons.injEq, and_true, true_and] at h
      rw [encT_inj h.1, encSs_inj a a' h.2.1, encSs_inj b b' h.2.2]
    | _ => cases this
theorem encSs_inj : ∀ a b : List Stm, encSs a = encSs b → a = b
  | [], [], _ => rfl
  | [], _ :: _, h => by simp [encSs] at h
  | _ :: _, [], h => by simp [encSs] at h
  | s :: a, t :: b, h => by
    simp only [encSs, List.cons.injEq] at h
    rw [encS_inj s t h.1, encSs_inj a b h.2]
end
theorem encB_inj {a b : List Stm} (h : encB a = encB b) : a = b := by
  simp only [encB, D.tup.injEq] at h
  exact encSs_inj a b h
theorem encL_inj {a b : Loop} (h : encL a = encL b) : a = b := by
  cases a; cases b
  simp only [encL, D.tup.injEq, List.cons.injEq, D.int.injEq, and_true] at h
  obtain ⟨rfl, rfl, rfl, h⟩ := h
  rw [encB_inj h]
end Kt
set_option Elab.async false
set_option linter.all false
set_option maxRecDepth 100000
set_option maxHeartbeats 4000000
/-! PlT: texts: str(), int(), join, split, f-strings, enumerate, sorted; with their runs -/
namespace Pl
open PySem PySem.Spec L2
section
variable {X : Cx}
def strsD : List D → Option (List Str)
  | [] => some []
  | .str x :: r => (strsD r).map (x :: ·)
  | _ :: _ => none
theorem strs_map (xs : List Str) : strsD (xs.map D.str) = some xs := by
  induction xs with
  | nil => rfl
  | cons x r ih => simp [strsD, ih]
theorem strs_rep {K : PySem.W.Frag} {H : Hp} : ∀ {vs : List V} {ds : List D} {xs : List Str}, RepAll K H vs ds → strsD ds = some xs → vs = xs.map V.str
  | _, _, _, .nil, h => by cases h; rfl
  | _, _, _, .cons (d := d) p r, h => by
    cases d with
    | str x =>
      obtain ⟨ys, h1, rfl⟩ := Option.map_eq_some_iff.mp (show (strsD _).map (x :: ·) = _ from h)
      cases p
      rw [strs_rep r h1]; rfl
    | _ => cases h
theorem rep_strs {K : PySem.W.Frag} {H : Hp} : ∀ xs : List Str, RepAll K H (xs.map V.str) (xs.map D.str)
  | [] => .nil
  | x :: r => .cons (.str x) (rep_strs r)
/-! str(), int() -/
def oStr : OpN := fun ds Q => match ds with
  | [.int i] => i.natAbs.log2 < 1920 ∧ Q (.str (toString i))
  | [.str x] => Q (.str x)
  | _ => False
theorem cd_str : CallD X (.type "str") oStr := by
  refine ⟨fun xs H Q => (∃ i, xs = [.int i] ∧ i.natAbs.log2 < 1920 ∧ Q (.str (toString i)) H) ∨ (∃ a, xs = [.str a] ∧ Q (.str a) H), fun pins s σ H x v Q I rx q => ?_, fun H xs ds Q Q' r o f => ?_⟩
  · rcases q with q | q
    · exact call_str_int pins s σ H x v Q I rx q
    · exact SkE.call_str_str pins s σ H x v Q I rx q
  · unfold oStr at o
    split at o
    · obtain ⟨v, rfl, rv⟩ := rep1 r
      cases rv
      exact .inl ⟨_, rfl, o.1, f.at (.str _) o.2⟩
    · obtain ⟨v, rfl, rv⟩ := rep1 r
      cases rv
      exact .inr ⟨_, rfl, f.at (.str _) o⟩
    · exact o.elim
def fStr (ds : List D) : Option D := match ds with
  | [.int i] => if i.natAbs.log2 < 1920 then some (.str (toString i)) else none
  | [.str x] => some (.str x)
  | _ => none
theorem cf_str : CallFn X (.type "str") fStr := ⟨_, cd_str, fun x z Q h q => by
  unfold fStr at h
  split at h
  · obtain ⟨hc, rfl⟩ := of_some h; exact ⟨hc, q⟩
  · cases h; exact q
  · cases h⟩
def oIntS : OpN := fun ds Q => match ds with
  | [.str a] => ∃ n, PySem.intText? a = some n ∧ a.length ≤ 640 ∧ Q (.int n)
  | _ => False
theorem cd_intS : CallD X (.type "int") oIntS := ⟨_, call_int_str, fun H xs ds Q Q' r o f => by
  unfold oIntS at o
  split at o
  · obtain ⟨v, rfl, rv⟩ := rep1 r
    obtain ⟨n, h1, h2, q⟩ := o
    cases rv
    exact ⟨_, n, rfl, h1, h2, f.at (.int n) q⟩
  · exact o.elim⟩
def fIntA (ds : List D) : Option D := match ds with
  | [.int i] => some (.int i)
  | [.str a] => if a.length ≤ 640 then (PySem.intText? a).map D.int else none
  | _ => none
theorem cf_intA : CallFn X (.type "int") fIntA := ⟨_, CallD_or cd_int cd_intS, fun x z Q h q => by
  unfold fIntA at h
  split at h
  · cases h; exact .inl q
  · split at h
    · rename_i hc
      obtain ⟨n, h1, rfl⟩ := Option.map_eq_some_iff.mp h
      exact .inr ⟨n, h1, hc, q⟩
    · cases h
  · cases h⟩
/-! methods of texts with one argument -/
variable {o e : Expr} {to te : PTE}
theorem pm_m1 {id : String} {name : Str} {apos pos : Pos} {op : Op2} {r : V → List V → Hp → VK → Prop} (slot : PySem.Slot "str" name id) (ty : typeOf (.builtin id) = pure (.type "method_descriptor")) (rule : MtR X id r) (ho : PM X o to) (he : PM X e te)
    (hs0 : ∀ x y Q, op x y Q → ∃ a, x = .str a)
    (hl : ∀ (H : Hp) (x y : V) (d e : D) (Q : VK) (Q' : D → Prop), Rep X.K H x d → Rep X.K H y e → op d e Q' → Fin X.K H Q Q' → r x [y] H Q)
    (hs : starEach [e] X.env = [(false, eval e X.env)] := by rfl) (hbase : attributeBase o name X.env (eval o X.env) = eval o X.env := by rfl) (hline : (apos.endLine == pos.line) = true := by rfl) :
    PM X (.Call (.Attribute o name apos) [e] [] pos) (fun S Q E => to S (fun x S1 => (∃ a, x = .str a) ∧ te S1 (fun y S2 => op x y fun z => Q z S2) E) E) := fun W tk => weakE (pe_m1 slot ty rule (ho W tk) (he W tk) hs hbase hline) fun σ H Q => by
  rintro ⟨S, Q', E', rel, q, up, ux⟩
  refine ⟨S, _, E', rel, q, fun v d H1 S1 n1 r1 p1 q1 => ?_, ux⟩
  obtain ⟨⟨a, rfl⟩, q1⟩ := q1
  cases p1
  refine ⟨⟨a, rfl⟩, S1, _, E', r1, q1, fun w e H2 S2 n2 r2 p2 q2 => ?_, ux.thn n1⟩
  exact hl H2 _ w _ e Q _ (.str a) p2 q2 (up.fin (n1.trans n2) r2)
def oJoin : Op2 := fun x y Q => match x, y with
  | .str a, .lst xs => ∃ ys, strsD xs = some ys ∧ (ys.map (·.length)).sum + ys.length * a.length ≤ 16777216 ∧ Q (.str (Txt.join a ys))
  | _, _ => False
def oSplit : Op2 := fun x y Q => match x, y with
  | .str a, .str b => (b.length == 0) = false ∧ a.length + 2 ≤ sizeLine ∧ Q (.lst ((Txt.split a b).map D.str))
  | _, _ => False
def fJoin (x y : D) : Option D := match x, y with
  | .str a, .lst xs => match strsD xs with
    | some ys => if (ys.map (·.length)).sum + ys.length * a.length ≤ 16777216 then some (.str (Txt.join a ys)) else none
    | none => none
  | _, _ => none
def fSplit (x y : D) : Option D := match x, y with
  | .str a, .str b => if (b.length == 0) = false ∧ a.length + 2 ≤ sizeLine then some (.lst ((Txt.split a b).map D.str)) else none
  | _, _ => none
def strB (d : D) : Bool := match d with
  | .str _ => true
  | _ => false
def rM1 (f : D → D → Option D) (ra rb : RE) : RE := fun S k e => ra S (fun x S1 => if strB x = true then rb S1 (fun y S2 => thnO (f x y) fun z => k z S2) e else .bad) e
theorem strB_ok {d : D} (h : strB d = true) : ∃ a, d = .str a := by
  cases d <;> first | exact ⟨_, rfl⟩ | cases h
theorem snd_m1 {op : Op2} {f : D → D → Option D} {ra rb : RE} (h : ∀ x y z (Q : D → Prop), f x y = some z → Q z → op x y Q) (ha : Snd to ra) (hb : Snd te rb) :
    Snd (fun S Q E => to S (fun x S1 => (∃ a, x = .str a) ∧ te S1 (fun y S2 => op x y fun z => Q z S2) E) E) (rM1 f ra rb) := fun A nb S k ex Q E hk he q =>
  ha A nb S _ ex _ E (fun x S1 q1 => by
    obtain ⟨h1, h2⟩ := bad_if nb q1
    refine ⟨strB_ok h1, hb A nb S1 _ ex _ E (fun y S2 q2 => ?_) he h2⟩
    obtain ⟨z, e1, e2⟩ := thnO_ok nb q2
    exact h _ _ _ _ e1 (hk _ _ e2)) he q
theorem rm_join {ra rb : RE} {apos pos : Pos} (ho : RM X o ra) (he : RM X e rb) (hs : starEach [e] X.env = [(false, eval e X.env)] := by rfl) (hbase : attributeBase o "join" X.env (eval o X.env) = eval o X.env := by rfl) (hline : (apos.endLine == pos.line) = true := by rfl) :
    RM X (.Call (.Attribute o "join" apos) [e] [] pos) (rM1 fJoin ra rb) := by
  obtain ⟨ta, pa, sa⟩ := ho; obtain ⟨tb, pb, sb⟩ := he
  refine ⟨_, pm_m1 (op := oJoin) F.slot_str_join F.type_str_join mt_join pa pb (fun x y Q h => ?_) (fun H x y d e Q Q' rx ry h f => ?_) hs hbase hline, snd_m1 (fun x y z Q h q => ?_) sa sb⟩
  · unfold oJoin at h; split at h
    · exact ⟨_, rfl⟩
    · exact h.elim
  · unfold oJoin at h; split at h
    · obtain ⟨ys, h1, h2, q⟩ := h
      cases rx
      cases ry with
      | lst hq ha =>
        have := strs_rep ha h1
        subst this
        exact ⟨_, _, ys, rfl, rfl, .inl hq.sq, h2, f.at (.str _) q⟩
    · exact h.elim
  · unfold fJoin at h; split at h
    · split at h
      · rename_i ys hy
        obtain ⟨hc, rfl⟩ := of_some h
        exact ⟨ys, hy, hc, q⟩
      · cases h
    · cases h
theorem rm_split {ra rb : RE} {apos pos : Pos} (ho : RM X o ra) (he : RM X e rb) (hs : starEach [e] X.env = [(false, eval e X.env)] := by rfl) (hbase : attributeBase o "split" X.env (eval o X.env) = eval o X.env := by rfl) (hline : (apos.endLine == pos.line) = true := by rfl) :
    RM X (.Call (.Attribute o "split" apos) [e] [] pos) (rM1 fSplit ra rb) := by
  obtain ⟨ta, pa, sa⟩ := ho; obtain ⟨tb, pb, sb⟩ := he
  refine ⟨_, pm_m1 (op := oSplit) F.slot_str_split F.type_str_split (MtR_frz mt_split) pa pb (fun x y Q h => ?_) (fun H x y d e Q Q' rx ry h f => ?_) hs hbase hline, snd_m1 (fun x y z Q h q => ?_) sa sb⟩
  · unfold oSplit at h; split at h
    · exact ⟨_, rfl⟩
    · exact h.elim
  · unfold oSplit at h; split at h
    · obtain ⟨h1, h2, q⟩ := h
      cases rx; cases ry
      exact ⟨_, _, rfl, rfl, h1, h2, fun p hp => f.newL hp (rep_strs _) q⟩
    · exact h.elim
  · unfold fSplit at h; split at h
    · obtain ⟨hc, rfl⟩ := of_some h
      exact ⟨hc.1, hc.2, q⟩
    · cases h
/-! f-strings -/
def pFmt (te : PTE) : PTE := fun S Q E => te S (fun d S1 => match d with
  | .str y => y.length ≤ sizeLine ∧ Q (.str y) S1
  | .int i => i.natAbs.log2 < 1920 ∧ Q (.str (toString i)) S1
  | _ => False) E
theorem pm_fmt {pos : Pos} (h : PM X e te) : PM X (.FormattedValue e (-1) none pos) (pFmt te) := fun W tk => weakE (pe_fmt (h W tk)) fun σ H Q => by
  rintro ⟨S, Q', E', rel, q, up, ux⟩
  refine ⟨S, _, E', rel, q, fun v d H1 S1 n1 r1 p1 q1 => ?_, ux⟩
  dsimp only at q1
  split at q1
  · cases p1
    exact .inl ⟨_, rfl, q1.1, up _ _ _ _ n1 r1 (.str _) q1.2⟩
  · cases p1
    exact .inr ⟨_, rfl, q1.1, up _ _ _ _ n1 r1 (.str _) q1.2⟩
  · exact q1.elim
def pJs : List PTE → Str → Sta → (Str → Sta → Prop) → PX → Prop
  | [], acc, S, Q, _ => Q acc S
  | t :: ts, acc, S, Q, E => t S (fun d S1 => match d with
    | .str y => (acc ++ y).length ≤ sizeLine ∧ pJs ts (acc ++ y) S1 Q E
    | _ => False) E
inductive PMJ (X : Cx) : List Expr → List PTE → Prop where
  | nil : PMJ X [] []
  | cons {e : Expr} {t : PTE} {es : List Expr} {ts : List PTE} (h : PM X e t) (r : PMJ X es ts) : PMJ X (e :: es) (t :: ts)
theorem PMJ.pj {es : List Expr} {ts : List PTE} (h : PMJ X es ts) {W : WX} (tk : Takes X W) : PJ X es (ts.map (lE X W)) := by
  induction h with
  | nil => exact .nil
  | cons h _ ih => exact .cons (h W tk) ih
theorem js_run {W : WX} : ∀ {ts : List PTE} {acc : Str} {σ : St} {H : Hp} {S : Sta} {R : Str → Hp → Prop} {Q : Str → Sta → Prop} {E : PX}, Rel X.K H σ S → pJs ts acc S Q E →
    (∀ x H' S', Nx σ S H σ S' H' → Rel X.K H' σ S' → Q x S' → R x H') → UpX X.K σ S H W E → tJs (ts.map (lE X W)) acc σ H R
  | [], acc, σ, H, S, R, Q, E, rel, q, up, ux => up _ _ _ .refl rel q
  | t :: ts, acc, σ, H, S, R, Q, E, rel, q, up, ux => by
    refine ⟨S, _, E, rel, q, fun v d H1 S1 n1 r1 p1 q1 => ?_, ux⟩
    dsimp only at q1
    split at q1
    · cases p1
      exact ⟨_, rfl, q1.1, js_run r1 q1.2 (fun x H' S' n' r' q' => up x H' S' (n1.trans n') r' q') (ux.thn n1)⟩
    · exact q1.elim
theorem pm_joined {v1 v2 : Expr} {rest : List Expr} {ts : List PTE} {pos : Pos} (h : PMJ X (v1 :: v2 :: rest) ts) : PM X (.JoinedStr (v1 :: v2 :: rest) pos) (fun S Q E => pJs ts Str.empty S (fun out S1 => Q (.str out) S1) E) := fun W tk => weakE (pe_joined (h.pj tk)) fun σ H Q => by
  rintro ⟨S, Q', E', rel, q, up, ux⟩
  exact js_run rel q (fun x H' S' n r q1 => up _ _ _ _ n r (.str x) q1) ux
theorem pm_joined1 {pos : Pos} (h : PM X e te) : PM X (.JoinedStr [e] pos) te := fun W tk => pe_joined1 (h W tk)
def fFmt (d : D) : Option D := match d with
  | .str y => if y.length ≤ sizeLine then some (.str y) else none
  | .int i => if i.natAbs.log2 < 1920 then some (.str (toString i)) else none
  | _ => none
theorem rm_fmt {pos : Pos} {r : RE} (h : RM X e r) : RM X (.FormattedValue e (-1) none pos) (rUn fFmt r) := by
  obtain ⟨ta, pa, sa⟩ := h
  refine ⟨_, pm_fmt pa, fun A nb S k ex Q E hk he q => sa A nb S _ ex _ E (fun d S1 q1 => ?_) he q⟩
  obtain ⟨z, e1, e2⟩ := thnO_ok nb q1
  unfold fFmt at e1
  split at e1
  · obtain ⟨hc, rfl⟩ := of_some e1; exact ⟨hc, hk _ _ e2⟩
  · obtain ⟨hc, rfl⟩ := of_some e1; exact ⟨hc, hk _ _ e2⟩
  · cases e1
def rJnil (acc : Str) : RG Str := fun S k _ => k acc S
def rJcons (r : RE) (u : Str → RG Str) (acc : Str) : RG Str := fun S k e => r S (fun d S1 => match d with
  | .str y => if (acc ++ y).length ≤ sizeLine then u (acc ++ y) S1 k e else .bad
  | _ => .bad) e
def RMJ (X : Cx) (es : List Expr) (u : Str → RG Str) : Prop := ∃ ts, PMJ X es ts ∧ ∀ acc, Snd (pJs ts acc) (u acc)
theorem rmj_nil : RMJ X [] rJnil := ⟨_, .nil, fun acc A nb S k ex Q E hk he q => hk _ _ q⟩
theorem rmj_cons {es : List Expr} {r : RE} {u : Str → RG Str} (h : RM X e r) (hr : RMJ X es u) : RMJ X (e :: es) (rJcons r u) := by
  obtain ⟨ta, pa, sa⟩ := h; obtain ⟨ts, ps, ss⟩ := hr
  refine ⟨_, .cons pa ps, fun acc A nb S k ex Q E hk he q => sa A nb S _ ex _ E (fun d S1 q1 => ?_) he q⟩
  split at q1
  · obtain ⟨h1, h2⟩ := bad_if nb q1
    exact ⟨h1, ss _ A nb S1 _ _ _ _ hk he h2⟩
  · exact absurd q1 nb
def rJoined (u : Str → RG Str) : RE := fun S k e => u Str.empty S (fun x S1 => k (.str x) S1) e
theorem rm_joined {v1 v2 : Expr} {rest : List Expr} {u : Str → RG Str} {pos : Pos} (h : RMJ X (v1 :: v2 :: rest) u) : RM X (.JoinedStr (v1 :: v2 :: rest) pos) (rJoined u) := by
  obtain ⟨ts, ps, ss⟩ := h
  exact ⟨_, pm_joined ps, fun A nb S k ex Q E hk he q => ss _ A nb S _ _ _ _ (fun x S1 q1 => hk _ _ q1) he q⟩
theorem rm_joined1 {pos : Pos} {r : RE} (h : RM X e r) : RM X (.JoinedStr [e] pos) r := by
  obtain ⟨ta, pa, sa⟩ := h
  exact ⟨_, pm_joined1 pa, sa⟩
/-! enumerate -/
def enumD (xs : List D) : List D := (List.range xs.length).map fun i => .tup [.int (i : Nat), xs.getD i .non]
theorem walks_enum {K : PySem.W.Frag} {H : Hp} {a : Addr} {xs : List V} {ds : List D} (h : FzL K H a xs) (r : RepAll K H xs ds) : WalksD K (Ite K a) H (enumD ds) := by
  refine ⟨fun H' => FzL K H' a xs ∧ RepAll K H' xs ds, ⟨h, r⟩, fun A H H' s q => ⟨s.fzl q.1, q.2.step s⟩, fun i H' q => ⟨fun hi => ⟨xs, q.1.sq, ?_⟩, fun d hd => ?_⟩⟩
  · rw [q.2.length]; simpa [enumD] using hi
  · obtain ⟨j, hd', hr⟩ : ∃ j, d = D.tup [.int (i : Nat), j] ∧ ds[i]? = some j := by
      have hl : i < ds.length := by
        have := (List.getElem?_eq_some_iff.mp hd).1
        simpa [enumD] using this
      refine ⟨ds[i], ?_, List.getElem?_eq_getElem hl⟩
      have : (enumD ds)[i]? = some (D.tup [.int (i : Nat), ds.getD i .non]) := by simp [enumD, hl]
      rw [this] at hd
      cases hd
      simp [List.getD, hl]
    subst hd'
    obtain ⟨v, hv, rv⟩ := q.2.get hr
    refine ⟨⟨xs, v, q.1.sq, hv⟩, fun x H2 y => ?_⟩
    obtain ⟨T, x2, rfl, hT, rfl, hx⟩ := y
    have e := hx xs q.1.sq
    rw [hv] at e
    cases e
    have sm : Same H' (upd H' T (.tup [.int (i : Nat), v])) := same_new hT
    exact ⟨sm, .tup (.of upd_same) (.cons (.int _) (.cons (rv.step (A := fun _ => False) (Step.of_same sm)) .nil))⟩
def pEnum (t : PTA) : PTI := fun S Q E => t S (fun ds S1 => ∃ xs, ds = [.lst xs] ∧ Q (enumD xs) S1) E
theorem pmi_enum {ta : PTA} {p pos tpos : Pos} {elts : List Expr} {kk : Nat} (hg : Gl X "enumerate") (hm : X.mg "enumerate" = none) (ha : PMA X [e] ta) (hs : starEach [e] X.env = [(false, eval e X.env)] := by rfl) :
    PMI X (.Tuple elts kk tpos) (.Call (.Name "enumerate" p) [e] [] pos) (pEnum ta) := fun W tk => weakI (pi_enum hg hm (ha W tk) hs) fun σ H R => by
  rintro ⟨S, Q', E', rel, q, up, ux⟩
  refine ⟨S, _, E', rel, q, fun vs ds H1 S1 n1 r1 p1 q1 => ?_, ux⟩
  obtain ⟨xs, rfl, q1⟩ := q1
  obtain ⟨v, rfl, rv⟩ := rep1 p1
  cases rv with
  | lst hq hr => exact ⟨_, _, rfl, hq.sq, up _ _ _ _ n1 r1 (walks_enum hq hr) q1⟩
def rEnum (t : RA) : RA := fun S k e => t S (fun ds S1 => match ds with
  | [.lst xs] => k (enumD xs) S1
  | _ => .bad) e
theorem rmi_enum {ra : RA} {p pos tpos : Pos} {elts : List Expr} {kk : Nat} (hg : Gl X "enumerate") (hm : X.mg "enumerate" = none) (ha : RMA X [e] ra) (hs : starEach [e] X.env = [(false, eval e X.env)] := by rfl) :
    RMI X (.Tuple elts kk tpos) (.Call (.Name "enumerate" p) [e] [] pos) (rEnum ra) := by
  obtain ⟨ta, pa, sa⟩ := ha
  refine ⟨_, pmi_enum hg hm pa hs, fun A nb S k ex Q E hk he q => sa A nb S _ ex _ E (fun d S1 q1 => ?_) he q⟩
  split at q1
  · exact ⟨_, rfl, hk _ _ q1⟩
  · exact absurd q1 nb
/-! a statement that is never come to -/
def rNever : RS := fun _ _ => .bad
theorem rms_never {st : Stmt} : RMS X st rNever := ⟨fun _ _ => False, fun W tk => weakS ps_never fun D σ H ⟨S, P, _, q, _⟩ => q.elim, fun A nb K P S a q => absurd q nb⟩
end
end Pl
set_option Elab.async false
set_option linter.all false
set_option maxRecDepth 100000
set_option maxHeartbeats 4000000
/-! PlR: enumerate of tuples, slices backwards -/
namespace Pl
open PySem PySem.Spec L2
open PyProof.Rows
theorem meets_enumerate_new1 {v : Value} {o : Obj} {H : Heap → Prop} (B : Begins v o H) :
    Meets (Builtin.«enumerate.__new__» ⟨[.type "enumerate", v], []⟩) (fun _ R s => H s.heap ∧
      R (.ok (.ret (.ref (s.heap.push o).objs.size))) { s with heap := (s.heap.push o).push { cls := .type "enumerate", data := .fields #[.none, .bool false, .ref s.heap.objs.size, rawInt 0, .none, .none] } }) :=
  .of_wp fun prog w A R s h => by
    obtain ⟨hp, g, d, tk, os⟩ := s; obtain ⟨h1, h⟩ := h
    have hsub := sub_enumerate
    have q1 : ∀ {A' : Around} {E : Value → Shared → Prop} {Q : Value → Shared → Prop}, Q (.ref hp.objs.size) ⟨hp.push o, g, d, tk, os⟩ → wpAny (model prog w) A' (pyIter v) Q E ⟨hp, g, d, tk, os⟩ :=
      fun q => B.iter prog w _ _ ⟨hp, g, d, tk, os⟩ _ h1 q
    wp_walk using q1
    refine wpAny_stack_any fun st => wpAny_pure ?_
    split
    · rename_i c _ _ _ _ _
      cases (c == Value.type "enumerate")
      · wp_walk using q1
        exact ⟨_, rfl, h⟩
      · wp_walk using q1
        exact ⟨_, rfl, h⟩
    · wp_walk using q1
      exact ⟨_, rfl, h⟩
theorem call_enumerate_begins {prog : Program} {w : World} {A : Around} {E : Value → Shared → Prop} {s : Shared} {v : Value} {o : Obj} {H : Heap → Prop} {Q : Value → Shared → Prop} (B : Begins v o H) (h1 : H s.heap)
    (h : ∀ h', IsEnum h' (s.heap.objs.size + 1) s.heap.objs.size 0 .none → h'.get? s.heap.objs.size = some o →
      (∀ b o, s.heap.get? b = some o → h'.get? b = some o) → Q (.ref (s.heap.objs.size + 1)) { s with heap := h' }) :
    wpAny (model prog w) A (call (.type "enumerate") [v]) Q E s := by
  refine callType_new F.called_enumerate (by decide) (F.typeCall_enumerate_1 _) (F.newCall_enumerate_1 _) (fun obj => F.args_object_init_2 obj _) F.entry_enumerate_new
    (meets_enumerate_new1 B) ⟨h1, ?_⟩
  have hz : (s.heap.push o).objs.size = s.heap.objs.size + 1 := Heap.size_push ..
  show _ ∧ _
  rw [hz]
  have he : IsEnum ((s.heap.push o).push { cls := .type "enumerate", data := .fields #[.none, .bool false, .ref s.heap.objs.size, rawInt 0, .none, .none] }) (s.heap.objs.size + 1) s.heap.objs.size 0 .none := by
    have := Heap.get?_push_size (s.heap.push o) (o := { cls := .type "enumerate", data := .fields #[.none, .bool false, .ref s.heap.objs.size, rawInt 0, .none, .none] }) rfl
    rw [hz] at this; exact this
  exact ⟨⟨_, he, rfl⟩, h _ he (Heap.get?_push_of_some _ (Heap.get?_push_size _ B.free)) fun b o x => Heap.get?_push_of_some _ (Heap.get?_push_of_some _ x)⟩
/-- the tuple at a, each item in a new pair -/
def IteT (K : PySem.W.Frag) (a : Addr) : It :=
  ⟨fun i H => ∃ (xs : List V) (x : V), SqT K H a xs ∧ xs[i]? = some x, fun i H v H' => ∃ T x, v = .ref T ∧ H T = none ∧ H' = upd H T (.tup [.int (i : Nat), x]) ∧ ∀ xs, SqT K H a xs → xs[i]? = some x, fun i H => ∃ xs : List V, SqT K H a xs ∧ xs.length ≤ i⟩
theorem turn_enumT {P : Program} {w : World} {K : PySem.W.Frag} {elts : List Expr} {kk : Nat} {tpos : Pos} (a e it : Addr) :
    Turn P w K (.Tuple elts kk tpos) (IteT K a) [e, it] e (fun i h => (∃ old, IsEnum h e it ((i : Nat) : Int) old) ∧ h.IsTupleIter it a i ∧ e ≠ it) where
  mem := by simp
  obj := fun i h st b hb => by
    obtain ⟨⟨old, he⟩, ⟨o, ho, hc, hd⟩, _⟩ := st
    have e' : b = e ∨ b = it := by simpa using hb
    rcases e' with z | z
    · rw [z]; exact ⟨_, he, fun v q => nomatch q⟩
    · rw [z]; exact ⟨o, ho, fun v q => by rw [hd] at q; cases q⟩
  keep := fun i h h' st k => let ⟨⟨old, he⟩, hi, hne⟩ := st; ⟨⟨old, k e (by simp) _ he⟩, hi.at fun o q => k it (by simp) o q, hne⟩
  item := by
    intro X hP hw hK hc i pins s σ H E I hf st hg
    subst hP hw hK
    obtain ⟨⟨old, he⟩, hit, hne⟩ := st
    obtain ⟨xs, x, hq, hx⟩ := hg
    obtain ⟨its, rv, p, hz⟩ := I.tuple hq
    obtain ⟨u, hu, ru⟩ := rv.get hx
    have hel : e < s.heap.objs.size := Heap.lt_size he
    have hil : it < s.heap.objs.size := by obtain ⟨_, q, _⟩ := hit; exact Heap.lt_size q
    have p' : s.heap.IsTuple a its.toArray := p
    have hea : e ≠ a := fun z => by
      obtain ⟨o, q, c, _⟩ := p'
      rw [← z, he] at q; cases q
      injection c with c; exact absurd c (by decide)
    have hia : a ≠ it := fun z => by
      obtain ⟨o, q, c, _⟩ := p'
      obtain ⟨o', q', c', _⟩ := hit
      rw [z, q'] at q; cases q; rw [c'] at c
      injection c with c; exact absurd c (by decide)
    have D : Draws X.prog X.w X.A.in1 it [it, a] its.toArray.size (fun i v => its.toArray[i]? = some v) (fun i h => h.IsTupleIter it a i ∧ h.IsTuple a its.toArray) := Draws.tuple (by exact I.ok.hd hc) it a hia _
    have hlt : i < its.toArray.size := by
      have := (List.getElem?_eq_some_iff.mp hu).1
      simpa using this
    refine wpAny_pyNext_enum_itemD D he ⟨hit, p'⟩ hlt hne (by simp [hne, hea]) fun y h' tk hy ho hst hT hsz hk => ?_
    have ey : y = u := by
      have e1 : its.toArray[i]? = some u := by simpa using hu
      rw [hy] at e1; cases e1; rfl
    subst ey
    refine ⟨_, rfl, wpAny_letOwnedTupleGo_enum (s := { s with heap := h', toks := tk + 1 }) ho fun h'' he' sb => ?_⟩
    have hT2 : h''.get? s.heap.objs.size = some { cls := .type "tuple", data := .seq #[.int i tk, y] } := (sb.2 _ (Nat.ne_of_gt hel)).trans hT
    have new : ObjOk X.prog X.w (upd H s.heap.objs.size (.tup [.int (i : Nat), x])) h'' s.heap.objs.size (.tup [.int (i : Nat), x]) :=
      ⟨by show 2 ≤ sizeLine; decide, [.int i tk, y], .cons ⟨_, rfl⟩ (.cons ru .nil), ⟨_, hT2, rfl, _, rfl⟩⟩
    have I1 : Inv X pins σ (upd H s.heap.objs.size (.tup [.int (i : Nat), x])) { s with heap := h'', toks := tk + 1 } :=
      I.turnedNew (ch := [e, it]) (fun b ob hb q => (sb.2 b (fun z => hb (by simp [z]))).trans (hk b ob (fun z => hb (by simp [z])) (fun z => hb (by simp [z])) q)) hf (Nat.le_refl _) new
    refine ⟨.ref s.heap.objs.size, _, I1, rfl, ⟨_, x, rfl, I.hok.fresh (Nat.le_refl _), rfl, fun ys hy => by rw [I.tuple_inj hy hq]; exact hx⟩, ⟨⟨y, ?_⟩, hst.1.at fun o q => (sb.2 it (Ne.symm hne)).trans q, hne⟩, fun b hb => ?_⟩
    · have e1 : ((i + 1 : Nat) : Int) = (i : Int) + 1 := by omega
      rw [e1]; exact he'
    · have hb' : b < s.heap.objs.size := by
        have e' : b = e ∨ b = it := by simpa using hb
        rcases e' with z | z
        · rw [z]; exact hel
        · rw [z]; exact hil
      rw [upd_ne (Nat.ne_of_lt hb')]
      exact (hf b hb).1
  done := by
    intro X hP hw hK hc i pins s σ H E I hf st hg
    subst hP hw hK
    obtain ⟨⟨old, he⟩, hit, hne⟩ := st
    obtain ⟨xs, hq, hx⟩ := hg
    obtain ⟨its, rv, p, hz⟩ := I.tuple hq
    obtain ⟨f0, f1, f2, f3, f4, f5⟩ := hf it (by simp)
    have hl := rv.length
    have p' : s.heap.IsTuple a its.toArray := p
    have D : Draws X.prog X.w X.A.in1 it [it, a] i (fun _ _ => True) (fun j h => j = i ∧ h.IsTupleIter it a i ∧ h.IsTuple a its.toArray) :=
      ⟨fun _ _ st => let ⟨o, ho, _⟩ := st.2.1; ⟨o, ho⟩,
       fun _ _ _ st hk => ⟨st.1, st.2.1.at fun o e => hk it (by simp) o e, st.2.2.at fun o e => hk a (by simp) o e⟩,
       fun j s Q E hj st _ => absurd st.1 (Nat.ne_of_lt hj),
       fun s Q E st hE => wpAny_nextOf_tuple_end (by exact I.ok.hd hc) st.2.1 st.2.2 (by simp; omega) fun h' x he hx => hE h' x he hx⟩
    exact wpAny_pyNext_enum_endD D he ⟨rfl, hit, p'⟩ fun h' eb => ⟨rfl, I.turned (t' := s.toks) (fun b o hb q => eb b o hb q) f0 f1 f3 f4 f5⟩
  self := fun A i s Q E st h => let ⟨⟨_, he⟩, _⟩ := st; wpAny_pyIter_enum he h
/-- enumerate of a list or a tuple -/
def iEnum2 (K : PySem.W.Frag) (ta : TA) : TI := fun σ H R => ta σ H fun vs H1 => ∃ a, vs = [.ref a] ∧ (((∃ xs, SqL K H1 a xs) ∧ R (Ite K a) H1) ∨ ((∃ xs, SqT K H1 a xs) ∧ R (IteT K a) H1))
theorem pi_enum2 {X : Cx} {e : Expr} {ta : TA} {p pos tpos : Pos} {elts : List Expr} {kk : Nat} (hg : Gl X "enumerate") (hm : X.mg "enumerate" = none) (ha : PA X [e] ta) (hs : starEach [e] X.env = [(false, eval e X.env)] := by rfl) :
    PI X (.Tuple elts kk tpos) (.Call (.Name "enumerate" p) [e] [] pos) (iEnum2 X.K ta) := by
  refine ⟨fun pins s σ H R I h => ?_⟩
  refine Call_ (ld_blt I hg hm boot_enumerate (PyProof.Rows.callWith_type1 (thn (ha.run pos pins s σ H _ I h) fun us s1 ⟨vs, H1, I1, r1, q1⟩ => ?_) hs rfl))
  obtain ⟨a, ex, q⟩ := q1
  subst ex
  cases r1 with
  | cons r rr =>
    cases rr
    cases r
    have fin : ∀ b ∈ [s1.heap.objs.size + 1, s1.heap.objs.size], FpOk X pins H1 b := fun b hb => by
      have e' : b = s1.heap.objs.size + 1 ∨ b = s1.heap.objs.size := by simpa using hb
      have hle : s1.heap.objs.size ≤ b := by
        rcases e' with z | z
        · rw [z]; exact Nat.le_add_right _ _
        · rw [z]; exact Nat.le_refl _
      exact I1.fpOk hle (I1.hok.fresh hle)
    rcases q with ⟨⟨xs, hq⟩, q⟩ | ⟨⟨xs, hq⟩, q⟩
    · obtain ⟨its, rv, p', hz⟩ := I1.list hq
      refine call_enumerate_list p'.isList fun h' he hit hsz hk => wpAny_pyIter_enum he ?_
      have I2 : Inv X pins σ H1 { s1 with heap := h' } := I1.kept (t' := s1.toks) hk
      exact ⟨s1.heap.objs.size + 1, [s1.heap.objs.size + 1, s1.heap.objs.size], _, _, H1, rfl, I2, turn_enum a (s1.heap.objs.size + 1) s1.heap.objs.size, ⟨⟨.none, he⟩, hit, Nat.succ_ne_self _⟩, fin, q⟩
    · obtain ⟨its, rv, p', hz⟩ := I1.tuple hq
      have p'' : s1.heap.IsTuple a its.toArray := p'
      refine call_enumerate_begins (begins_tuple a its.toArray) p'' fun h' he hit hk => wpAny_pyIter_enum he ?_
      have I2 : Inv X pins σ H1 { s1 with heap := h' } := I1.kept (t' := s1.toks) hk
      exact ⟨s1.heap.objs.size + 1, [s1.heap.objs.size + 1, s1.heap.objs.size], _, _, H1, rfl, I2, turn_enumT a (s1.heap.objs.size + 1) s1.heap.objs.size, ⟨⟨.none, he⟩, ⟨_, hit, rfl, rfl⟩, Nat.succ_ne_self _⟩, fin, q⟩
theorem walks_enumT {K : PySem.W.Frag} {H : Hp} {a : Addr} {xs : List V} {ds : List D} (h : SqT K H a xs) (r : RepAll K H xs ds) : WalksD K (IteT K a) H (enumD ds) := by
  refine ⟨fun H' => SqT K H' a xs ∧ RepAll K H' xs ds, ⟨h, r⟩, fun A H H' s q => ⟨s.tup q.1, q.2.step s⟩, fun i H' q => ⟨fun hi => ⟨xs, q.1, ?_⟩, fun d hd => ?_⟩⟩
  · rw [q.2.length]; simpa [enumD] using hi
  · obtain ⟨j, hd', hr⟩ : ∃ j, d = D.tup [.int (i : Nat), j] ∧ ds[i]? = some j := by
      have hl : i < ds.length := by
        have := (List.getElem?_eq_some_iff.mp hd).1
        simpa [enumD] using this
      refine ⟨ds[i], ?_, List.getElem?_eq_getElem hl⟩
      have : (enumD ds)[i]? = some (D.tup [.int (i : Nat), ds.getD i .non]) := by simp [enumD, hl]
      rw [this] at hd
      cases hd
      simp [List.getD, hl]
    subst hd'
    obtain ⟨v, hv, rv⟩ := q.2.get hr
    refine ⟨⟨xs, v, q.1, hv⟩, fun x H2 y => ?_⟩
    obtain ⟨T, x2, rfl, hT, rfl, hx⟩ := y
    have e := hx xs q.1
    rw [hv] at e
    cases e
    have sm : Same H' (upd H' T (.tup [.int (i : Nat), v])) := same_new hT
    exact ⟨sm, .tup (.of upd_same) (.cons (.int _) (.cons (rv.step (A := fun _ => False) (Step.of_same sm)) .nil))⟩
section
variable {X : Cx} {e : Expr}
def itmD (d : D) : Option (List D) := match d with
  | .lst xs => some xs
  | .tup xs => some xs
  | _ => none
def pEnum2 (t : PTA) : PTI := fun S Q E => t S (fun ds S1 => ∃ d xs, ds = [d] ∧ itmD d = some xs ∧ Q (enumD xs) S1) E
theorem pmi_enum2 {ta : PTA} {p pos tpos : Pos} {elts : List Expr} {kk : Nat} (hg : Gl X "enumerate") (hm : X.mg "enumerate" = none) (ha : PMA X [e] ta) (hs : starEach [e] X.env = [(false, eval e X.env)] := by rfl) :
    PMI X (.Tuple elts kk tpos) (.Call (.Name "enumerate" p) [e] [] pos) (pEnum2 ta) := fun W tk => weakI (pi_enum2 hg hm (ha W tk) hs) fun σ H R => by
  rintro ⟨S, Q', E', rel, q, up, ux⟩
  refine ⟨S, _, E', rel, q, fun vs ds H1 S1 n1 r1 p1 q1 => ?_, ux⟩
  obtain ⟨d, xs, rfl, hd, q1⟩ := q1
  obtain ⟨v, rfl, rv⟩ := rep1 p1
  cases rv with
  | lst hq hr => cases hd; exact ⟨_, rfl, .inl ⟨⟨_, hq.sq⟩, up _ _ _ _ n1 r1 (walks_enum hq hr) q1⟩⟩
  | tup hq hr => cases hd; exact ⟨_, rfl, .inr ⟨⟨_, hq⟩, up _ _ _ _ n1 r1 (walks_enumT hq hr) q1⟩⟩
  | _ => cases hd
def rEnum2 (t : RA) : RA := fun S k e => t S (fun ds S1 => match ds with
  | [d] => (match itmD d with
    | some xs => k (enumD xs) S1
    | none => .bad)
  | _ => .bad) e
theorem rmi_enum2 {ra : RA} {p pos tpos : Pos} {elts : List Expr} {kk : Nat} (hg : Gl X "enumerate") (hm : X.mg "enumerate" = none) (ha : RMA X [e] ra) (hs : starEach [e] X.env = [(false, eval e X.env)] := by rfl) :
    RMI X (.Tuple elts kk tpos) (.Call (.Name "enumerate" p) [e] [] pos) (rEnum2 ra) := by
  obtain ⟨ta, pa, sa⟩ := ha
  refine ⟨_, pmi_enum2 hg hm pa hs, fun A nb S k ex Q E hk he q => sa A nb S _ ex _ E (fun d S1 q1 => ?_) he q⟩
  split at q1
  · split at q1
    · rename_i d xs hd
      exact ⟨_, _, rfl, hd, hk _ _ q1⟩
    · exact absurd q1 nb
  · exact absurd q1 nb
end
end Pl
set_option Elab.async false
set_option linter.all false
set_option maxRecDepth 100000
set_option maxHeartbeats 4000000
/-! PlR2: slices of tuples backwards -/
namespace Pl
open PySem PySem.Spec L2
open PyProof.Rows
/-- the places of x[lo:hi:-1] -/
def backIx (n : Nat) (lo hi : Option Int) : List Nat :=
  (List.range (Builtin.Slice.slicePlaces (Builtin.Slice.sliceAdjust lo hi (-1) (n : Int)).1 (Builtin.Slice.sliceAdjust lo hi (-1) (n : Int)).2 (-1))).map fun (m : Nat) => ((Builtin.Slice.sliceAdjust lo hi (-1) (n : Int)).1 + (m : Int) * (-1)).toNat
def pickL {α : Type} (xs : List α) (is : List Nat) : List α := is.filterMap (xs[·]?)
theorem vals_pick {xs : List V} {us : List Value} (r : Vals xs us) : ∀ is : List Nat, Vals (pickL xs is) (pickL us is)
  | [] => .nil
  | i :: is => by
    unfold pickL
    cases h : xs[i]? with
    | none =>
      rw [List.filterMap_cons_none h, List.filterMap_cons_none (r.none_of h)]
      exact vals_pick r is
    | some x =>
      obtain ⟨u, hu, ru⟩ := r.get h
      rw [List.filterMap_cons_some h, List.filterMap_cons_some hu]
      exact .cons ru (vals_pick r is)
theorem rep_pick {K : PySem.W.Frag} {H : Hp} {xs : List V} {ds : List D} (r : RepAll K H xs ds) : ∀ is : List Nat, RepAll K H (pickL xs is) (pickL ds is)
  | [] => .nil
  | i :: is => by
    unfold pickL
    cases h : ds[i]? with
    | none =>
      have h' : xs[i]? = none := by
        have := r.length
        rw [List.getElem?_eq_none_iff] at h ⊢; omega
      rw [List.filterMap_cons_none h, List.filterMap_cons_none h']
      exact rep_pick r is
    | some x =>
      obtain ⟨u, hu, ru⟩ := r.get h
      rw [List.filterMap_cons_some h, List.filterMap_cons_some hu]
      exact .cons ru (rep_pick r is)
theorem pickL_len {α : Type} (xs : List α) (is : List Nat) : (pickL xs is).length ≤ is.length := List.length_filterMap_le ..
theorem backIx_len (n : Nat) (lo hi : Option Int) : (backIx n lo hi).length ≤ n := by
  unfold backIx
  rw [List.length_map, List.length_range]
  unfold Builtin.Slice.slicePlaces Builtin.Slice.sliceAdjust
  have h1 : ((-1 : Int) < 0) := by omega
  have h2 : ¬ ((-1 : Int) > 0) := by omega
  have h3 : -(-1 : Int) = 1 := rfl
  simp only [h1, h2, if_true, if_false, h3, Int.ediv_one]
  cases lo <;> cases hi <;> dsimp only <;> (repeat' split) <;> omega
section
variable {prog : Program} {w : World} {A : Around} {E : Value → Shared → Prop} {s : Shared}
theorem sliceApplied_back {sl : Addr} {vl vu vs : Value} {lo hi : Option Int} {n : Nat} {Q : Int × Int × Nat → Shared → Prop} (hs : s.heap.IsSliceOf sl vl vu vs) (pl : IsPart vl lo) (pu : IsPart vu hi) (ps : IsPart vs (some (-1)))
    (h : Q ((Builtin.Slice.sliceAdjust lo hi (-1) (n : Int)).1, -1, Builtin.Slice.slicePlaces (Builtin.Slice.sliceAdjust lo hi (-1) (n : Int)).1 (Builtin.Slice.sliceAdjust lo hi (-1) (n : Int)).2 (-1)) s) : wpAny (model prog w) A (Builtin.Slice.sliceApplied (.ref sl) (pure (n : Int))) Q E s := by
  obtain ⟨os, hos, hcs, hds⟩ := id hs
  unfold Builtin.Slice.sliceApplied Builtin.Slice.sliceFields
  refine wpAny_bind (wpAny_bind (wpAny_field hos hds (x := vl) rfl (wpAny_bind (wpAny_field hos hds (x := vu) rfl (wpAny_bind (wpAny_field hos hds (x := vs) rfl (wpAny_pure ?_)))))))
  refine wpAny_bind (HT.slicePart_ ps ?_)
  show wpAny _ _ (if ((-1 : Int) == 0) = true then _ else _) _ _ s
  rw [if_neg (by decide)]
  exact wpAny_bind (HT.slicePart_ pl (wpAny_bind (HT.slicePart_ pu (wpAny_bind (wpAny_pure (wpAny_pure h))))))
theorem getItem_tuple_back {t sl : Addr} {items : Array Value} {vl vu vs : Value} {lo hi : Option Int} {Q : Value → Shared → Prop} (ht : IsTup s.heap t items) (hs : s.heap.IsSliceOf sl vl vu vs) (pl : IsPart vl lo) (pu : IsPart vu hi) (ps : IsPart vs (some (-1)))
    (h : Q (.ref s.heap.objs.size) { s with heap := s.heap.push { cls := .type "tuple", data := .seq (pickL items.toList (backIx items.size lo hi)).toArray } })
    (hsz : items.size ≤ sizeLine) : wpAny (model prog w) A (getItem (.ref t) (.ref sl)) Q E s := by
  have htake : sizeOk (.seq (pickL items.toList (backIx items.size lo hi)).toArray) := by
    show (pickL items.toList (backIx items.size lo hi)).toArray.size ≤ sizeLine
    rw [List.size_toArray]
    exact Nat.le_trans (pickL_len _ _) (Nat.le_trans (backIx_len _ _ _) hsz)
  obtain ⟨os, hos, hcs, hds⟩ := id hs
  have hTs : s.TypeIs (.ref sl) "slice" := ⟨os, hos, hcs⟩
  unfold getItem
  try with_reducible refine wpAny_holding ?_
  first | refine wpAny_bind (wpAny_pure ?_) | skip
  refine wpAny_bind (wpAny_sequenceKey ht.typeIs (by decide) ?_)
  refine wpAny_bind (wpAny_callSpecial?_slot (name := Str.ofString "__getitem__") ht.typeIs PyProof.Rows.slot_tuple_getitem
    (wpAny_call_entry PyProof.Rows.slot_tuple_getitem ht.typeIs entry_tuple_getitem ?_ (args_tuple_getitem _ _)))
  show wpAny _ _ (Builtin.Tuple.tupleItemsOf (.ref t) >>= _) _ _ s
  refine wpAny_bind (tupleItemsOf_ ht ?_)
  refine wpAny_bind (wpAny_typeOf hTs ?_)
  rw [if_pos (by decide)]
  refine wpAny_bind (sliceApplied_back hs pl pu ps ?_)
  have hno : ¬ (((Builtin.Slice.sliceAdjust lo hi (-1) (items.size : Int)).1 == 0 && (-1 : Int) == 1 && Builtin.Slice.slicePlaces (Builtin.Slice.sliceAdjust lo hi (-1) (items.size : Int)).1 (Builtin.Slice.sliceAdjust lo hi (-1) (items.size : Int)).2 (-1) == items.size) = true) := by
    intro q
    rw [Bool.and_eq_true, Bool.and_eq_true] at q
    exact absurd q.1.2 (by decide)
  show wpAny _ _ (if ((Builtin.Slice.sliceAdjust lo hi (-1) (items.size : Int)).1 == 0 && (-1 : Int) == 1 && Builtin.Slice.slicePlaces (Builtin.Slice.sliceAdjust lo hi (-1) (items.size : Int)).1 (Builtin.Slice.sliceAdjust lo hi (-1) (items.size : Int)).2 (-1) == items.size) = true then _ else _) _ _ s
  rw [if_neg hno]
  have e : ((List.range (Builtin.Slice.slicePlaces (Builtin.Slice.sliceAdjust lo hi (-1) (items.size : Int)).1 (Builtin.Slice.sliceAdjust lo hi (-1) (items.size : Int)).2 (-1))).filterMap fun (m : Nat) => items[((Builtin.Slice.sliceAdjust lo hi (-1) (items.size : Int)).1 + (m : Int) * (-1)).toNat]?) = pickL items.toList (backIx items.size lo hi) := by
    unfold pickL backIx
    rw [List.filterMap_map]
    congr 1
    funext m
    simp
  rw [e]
  first
    | exact wpAny_bind (m := Builtin.Tuple.tupleExact _) (wpAny_newObj_type (wpAny_pure ⟨_, rfl, wpAny_pure h⟩) htake)
    | exact wpAny_bind (m := Builtin.Tuple.tupleExact _) (wpAny_newObj_type (wpAny_bind (wpAny_pure (wpAny_pure ⟨_, rfl, wpAny_pure h⟩))) htake)
    | exact wpAny_bind (wpAny_bind (m := Builtin.Tuple.tupleExact _) (wpAny_newObj_type (wpAny_pure (wpAny_pure ⟨_, rfl, wpAny_pure h⟩)) htake))
    | exact wpAny_bind (wpAny_bind (m := Builtin.Tuple.tupleExact _) (wpAny_newObj_type (wpAny_pure ⟨_, rfl, wpAny_pure h⟩) htake))
end
def tBack (K : PySem.W.Frag) (te : TE) (tl th : TO) : TE := fun σ H Q => te σ H fun x H1 => tl σ H1 fun l H2 => th σ H2 fun u H3 => ∃ a xs, x = .ref a ∧ SqT K H3 a xs ∧ ∀ p, H3 p = none → Q (.ref p) (upd H3 p (.tup (pickL xs (backIx xs.length l u))))
theorem pe_back {X : Cx} {e : Expr} {te : TE} {lo hi : Option Expr} {tl th : TO} {k : Nat} {p1 p2 p3 pos : Pos} (he : PE X e te) (hl : PO X lo tl) (hu : PO X hi th) :
    PE X (.Subscript e (.Slice lo hi (some (.UnaryOp .USub (.Constant (.int 1) k p1) p2)) p3) pos) (tBack X.K te tl th) := by
  refine ⟨fun pins s σ H Q I h => ?_⟩
  refine Subscript_ (thn (he.run pins s σ H _ I h) fun v s1 ⟨x, H1, I1, r1, q1⟩ => ?_)
  have hst : PO X (some (.UnaryOp .USub (.Constant (.int 1) k p1) p2)) (tPart (tUn (rU fun i => .int (-i)) (tC (.int 1)))) := po_some (pe_un un_neg pe_int)
  refine wpAny_Slice (thn (hl.run pins s1 σ H1 _ I1 q1) fun vl s2 ⟨l, H2, I2, pl, q2⟩ => ?_)
  refine thn (hu.run pins s2 σ H2 _ I2 q2) fun vu s3 ⟨u, H3, I3, pu, q3⟩ => ?_
  refine thn (hst.run pins s3 σ H3 (fun o H4 => o = some (-1) ∧ H4 = H3) I3 ⟨1, rfl, -1, rfl, rfl, rfl⟩) fun vs s4 ⟨o, H4, I4, ps, eo, e4⟩ => ?_
  subst eo e4
  obtain ⟨a, xs, ex, hx, q⟩ := q3
  subst ex
  cases r1
  have I5 : Inv X pins σ H4 { s4 with heap := s4.heap.push { cls := .type "slice", data := .fields #[vl, vu, vs] } } := I4.kept (t' := s4.toks) fun b ob q => Heap.get?_push_of_some _ q
  obtain ⟨its, r, ht, hz⟩ := I5.tuple hx
  have hlen : its.toArray.size = xs.length := by rw [List.size_toArray]; exact r.length.symm
  show wpAny (model X.prog X.w) X.A (subscriptTail e (.Slice lo hi (some (.UnaryOp .USub (.Constant (.int 1) k p1) p2)) p3) (.ref a) (.ref s4.heap.objs.size)) (EP X pins σ Q) X.xe { s4 with heap := s4.heap.push { cls := .type "slice", data := .fields #[vl, vu, vs] } }
  refine tail_any (ops := [.ref a, .ref s4.heap.objs.size]) ht.typeIs (PyProof.Rows.slot_tuple_getitem.lookup) ?_ (by with_unfolding_all rfl)
  refine getItem_tuple_back ht (Heap.IsSliceOf.new _ vl vu vs) pl pu ps ?_ (by rw [hlen]; exact hz)
  rw [hlen]
  refine ⟨.ref _, _, I5.laid (t' := s4.toks) (o := .tup (pickL xs (backIx xs.length l u))) (fun b ob q => Heap.get?_push_of_some _ q) (Nat.le_refl _) ?_, rfl, q _ (I5.hok.fresh (Nat.le_refl _))⟩
  exact ⟨Nat.le_trans (pickL_len _ _) (Nat.le_trans (backIx_len _ _ _) hz), _, vals_pick r _, IsTup.new _ _⟩
section
variable {X : Cx} {a e : Expr} {ta te : PTE}
def oBack : D → Option Int → Option Int → (D → Prop) → Prop := fun x lo hi Q => match x with
  | .tup xs => Q (.tup (pickL xs (backIx xs.length lo hi)))
  | _ => False
def fBack (x : D) (lo hi : Option Int) : Option D := match x with
  | .tup xs => some (.tup (pickL xs (backIx xs.length lo hi)))
  | _ => none
theorem pm_back {lo hi : Option Expr} {tl th : Option PTE} {k : Nat} {p1 p2 p3 pos : Pos} (he : PM X a ta) (hl : POX X lo tl) (hu : POX X hi th) : PM X (.Subscript a (.Slice lo hi (some (.UnaryOp .USub (.Constant (.int 1) k p1) p2)) p3) pos) (pSl oBack ta tl th) := fun W tk => by
  refine weakE (pe_back (he W tk) (po_of tk hl) (po_of tk hu)) ?_
  rintro σ H Q ⟨S, Q', E', rel, q, up, ux⟩
  refine ⟨S, _, E', rel, q, fun v d H1 S1 n1 r1 p1 q1 => ?_, ux⟩
  refine ⟨S1, _, E', r1, q1, fun l H2 S2 n2 r2 q2 => ?_, ux.thn n1⟩
  refine ⟨S2, _, E', r2, q2, fun u H3 S3 n3 r3 q3 => ?_, ux.thn (n1.trans n2)⟩
  unfold oBack at q3
  split at q3
  · cases (p1.nx n2).nx n3 with
    | tup h r => exact ⟨_, _, rfl, h, fun p hp => (up.fin ((n1.trans n2).trans n3) r3).newT hp (by rw [r.length]; exact rep_pick r _) q3⟩
  · exact q3.elim
def rBack (ra : RE) (lo hi : Option RE) : RE := fun S k e => ra S (fun x S1 => rPart lo S1 (fun l S2 => rPart hi S2 (fun h S3 => thnO (fBack x l h) fun z => k z S3) e) e) e
theorem back_sound {x z : D} {lo hi : Option Int} {Q : D → Prop} (h : fBack x lo hi = some z) (q : Q z) : oBack x lo hi Q := by
  unfold fBack at h
  split at h
  · cases h; exact q
  · cases h
theorem rm_back {lo hi : Option Expr} {ra : RE} {rl rh : Option RE} {k : Nat} {p1 p2 p3 pos : Pos} (ha : RM X a ra) (hl : ROX X lo rl) (hh : ROX X hi rh) : RM X (.Subscript a (.Slice lo hi (some (.UnaryOp .USub (.Constant (.int 1) k p1) p2)) p3) pos) (rBack ra rl rh) := by
  obtain ⟨ta, pa, sa⟩ := ha; obtain ⟨tl, pl, sl⟩ := part_snd hl; obtain ⟨th, ph, sh⟩ := part_snd hh
  exact ⟨_, pm_back pa pl ph, fun A nb S k ex Q E hk he q => sa A nb S _ ex _ E (fun x S1 q1 => sl A nb S1 _ ex _ E (fun l S2 q2 => sh A nb S2 _ ex _ E (fun u S3 q3 => by
    obtain ⟨z, e1, e2⟩ := thnO_ok nb q3
    exact back_sound e1 (hk _ _ e2)) he q2) he q1) he q⟩
end
end Pl
set_option Elab.async false
set_option linter.all false
set_option maxRecDepth 100000
set_option maxHeartbeats 4000000
/-! PlR3: a module's dict of texts: copied, asked for a key -/
namespace Pl
open PySem PySem.Spec L2
open PyProof.Rows
def entTxt (e : DictEntry) : Option (Str × Str) := match e.key, e.val with
  | .str x _, .str y _ => some (x, y)
  | _, _ => none
theorem entTxt_ok {e : DictEntry} {x y : Str} (h : entTxt e = some (x, y)) : (∃ t, e.key = .str x t) ∧ ∃ t, e.val = .str y t := by
  unfold entTxt at h
  split at h
  · rename_i h1 h2
    cases h
    exact ⟨⟨_, h1⟩, ⟨_, h2⟩⟩
  · cases h
/-- a module's dict of texts, as it stands -/
def GD (K : PySem.W.Frag) (w : World) (mg : Str → Option Value) (x : Str) (tab : List (Str × Str)) : Prop :=
  ∃ p es n, mg x = some (.ref p) ∧ K.lookup p = some ⟨.type "dict", none, .dict es n, #[]⟩ ∧ (p == sysModules) = false ∧ PySem.W.KeysLit w.params es.toList ∧ es.toList.map entTxt = tab.map some ∧ (tab.map (·.1)).Nodup ∧ tab.length ≤ sizeLine
theorem find_tab (z : Str) : ∀ (es : List DictEntry) (tab : List (Str × Str)), es.map entTxt = tab.map some → (es.find? (·.key.isStr z)).isSome = (tab.lookup z).isSome
  | [], [], _ => rfl
  | [], _ :: _, h => by cases h
  | _ :: _, [], h => by cases h
  | e :: es, (x, y) :: tab, h => by
    rw [List.map_cons, List.map_cons] at h
    injection h with h1 h2
    obtain ⟨⟨t, hk⟩, _⟩ := entTxt_ok h1
    have ih := find_tab z es tab h2
    rw [List.find?_cons, List.lookup_cons, hk]
    show (match x == z with | true => some e | false => es.find? _).isSome = _
    cases c : x == z
    · have c2 : (z == x) = false := by rw [beq_eq_false_iff_ne] at c ⊢; exact Ne.symm c
      rw [c2]; exact ih
    · have c2 : (z == x) = true := by rw [beq_iff_eq] at c ⊢; exact c.symm
      rw [c2]; rfl
theorem norefs : ∀ (es : List DictEntry) (tab : List (Str × Str)), es.map entTxt = tab.map some → es.any (·.refKey) = false
  | [], _, _ => rfl
  | _ :: _, [], h => by cases h
  | e :: es, (x, y) :: tab, h => by
    rw [List.map_cons, List.map_cons] at h
    injection h with h1 h2
    obtain ⟨⟨t, hk⟩, _⟩ := entTxt_ok h1
    rw [List.any_cons, norefs es tab h2, Bool.or_false]
    unfold DictEntry.refKey
    rw [hk]
theorem nsIn_tab {K : PySem.W.Frag} {p : Addr} {es : Array DictEntry} {n : Nat} {tab : List (Str × Str)} (hl : K.lookup p = some ⟨.type "dict", none, .dict es n, #[]⟩) (ht : es.toList.map entTxt = tab.map some) (z : Str) :
    ∃ r, PySem.W.nsIn K p z = some r ∧ r.isSome = (tab.lookup z).isSome := by
  have f := find_tab z _ _ ht
  unfold PySem.W.nsIn
  rw [hl]
  dsimp only
  cases e : es.toList.find? (·.key.isStr z) with
  | some v => rw [e] at f; exact ⟨some v.val, rfl, f⟩
  | none => rw [e] at f; exact ⟨none, by rw [norefs _ _ ht]; rfl, f⟩
def kvsT (tab : List (Str × Str)) : List (Key × V) := tab.map fun p => (.inr p.1, .str p.2)
theorem pairs_tab {prog : Program} {w : World} : ∀ (es : List DictEntry) (tab : List (Str × Str)), es.map entTxt = tab.map some → ∃ vs : List (Key × Value), Pairs (mixKind prog w) es vs ∧ KV (kvsT tab) vs ∧ vs.map (·.1) = tab.map fun p => Sum.inr p.1
  | [], [], _ => ⟨[], .nil, .nil, rfl⟩
  | [], _ :: _, h => by cases h
  | _ :: _, [], h => by cases h
  | e :: es, (x, y) :: tab, h => by
    rw [List.map_cons, List.map_cons] at h
    injection h with h1 h2
    obtain ⟨⟨t, hk⟩, ⟨u, hv⟩⟩ := entTxt_ok h1
    obtain ⟨vs, i1, i2, i3⟩ := pairs_tab es tab h2
    refine ⟨(.inr x, .str y u) :: vs, .cons ?_ hv i1, .cons ⟨rfl, ⟨u, rfl⟩⟩ i2, by rw [List.map_cons, List.map_cons, i3]⟩
    rw [hk]; exact keyIs_str x t
theorem dictOf_tab {prog : Program} {w : World} {h : Heap} {K : PySem.W.Frag} {p : Addr} {es : Array DictEntry} {n : Nat} {tab : List (Str × Str)} (I : K.In h) (hl : K.lookup p = some ⟨.type "dict", none, .dict es n, #[]⟩) (hk : PySem.W.KeysLit w.params es.toList)
    (ht : es.toList.map entTxt = tab.map some) (hn : (tab.map (·.1)).Nodup) : ∃ vs, KV (kvsT tab) vs ∧ h.DictOf (mixKind prog w) p vs := by
  obtain ⟨vs, i1, i2, i3⟩ := pairs_tab (prog := prog) (w := w) _ _ ht
  refine ⟨vs, i2, _, es, n, I _ _ hl, ⟨rfl, rfl, rfl⟩, rfl, fun e he => ?_, i1, ?_⟩
  · obtain ⟨x, t, e1, e2⟩ := hk.all e (Array.mem_toList_iff.mpr he)
    exact ⟨.inr x, by rw [e1]; exact keyIs_str x t, e2⟩
  · rw [i3]
    have : (tab.map fun p => (Sum.inr p.1 : Key)) = (tab.map (·.1)).map Sum.inr := by rw [List.map_map]; rfl
    rw [this]
    exact List.Pairwise.map _ (fun a b h e => h (Sum.inr.inj e)) hn
/-- the copy's value -/
def dctT (tab : List (Str × Str)) : D := .dct (tab.map fun p => .str p.1) (tab.map fun p => .str p.2)
theorem Fin.newD {K : PySem.W.Frag} {H : Hp} {Q : VK} {Q' : D → Prop} {p : Addr} {kvs : List (Key × V)} {ds : List D} (f : Fin K H Q Q') (hp : H p = none) (r : RepAll K H (kvs.map (·.2)) ds) (q : Q' (.dct (kvs.map fun p => keyD p.1) ds)) : frz Q (.ref p) (upd H p (.dK kvs)) := by
  refine .inr ⟨p, _, rfl, upd_same, .inr ⟨_, rfl⟩, fun o => ?_⟩
  have s : Same H (upd (upd H p (.dK kvs)) p (.frz o (.dK kvs))) := same_frz hp
  exact f _ _ _ s (.dct upd_same (r.step (A := fun _ => False) (Step.of_same s))) q
theorem rep_tab {K : PySem.W.Frag} {H : Hp} : ∀ tab : List (Str × Str), RepAll K H ((kvsT tab).map (·.2)) (tab.map fun p => .str p.2)
  | [] => .nil
  | p :: r => .cons (.str p.2) (rep_tab r)
section
variable {X : Cx} {x : Str} {p1 p2 pos : Pos} {tab : List (Str × Str)} {a : Expr} {ta : PTE} {ra : RE}
def oDictG (p : Addr) (tab : List (Str × Str)) : OpN := fun ds Q => ds = [.adr p] ∧ Q (dctT tab)
theorem cd_dictG {p : Addr} {es : Array DictEntry} {n : Nat} (hl : X.K.lookup p = some ⟨.type "dict", none, .dict es n, #[]⟩) (hm : (p == sysModules) = false) (hk : PySem.W.KeysLit X.w.params es.toList) (ht : es.toList.map entTxt = tab.map some) (hn : (tab.map (·.1)).Nodup) (hz : tab.length ≤ sizeLine) :
    CallD X (.type "dict") (oDictG p tab) := by
  refine ⟨_, CallR_frz (r := fun xs H Q => xs = [.ref p] ∧ ∀ q, H q = none → Q (.ref q) (upd H q (.dK (kvsT tab)))) (fun pins s σ H xs us Q I r q => ?_), fun H xs ds Q Q' r o f => ?_⟩
  · obtain ⟨ex, q⟩ := q
    subst ex
    obtain ⟨u, eu, rx⟩ := vals1 r
    subst eu
    cases rx
    obtain ⟨vs, rel, dd⟩ := dictOf_tab (prog := X.prog) I.kIn hl hk ht hn
    have hlen : (kvsT tab).length = tab.length := List.length_map ..
    refine kt_call_dict hm dd (by rw [← rel.length, hlen]; exact hz) fun h' d' hs => ?_
    have hm : (s.heap.objs.size == sysModules) = false := beq_eq_false_iff_ne.mpr (Nat.ne_of_gt I.big)
    exact ⟨.ref s.heap.objs.size, upd H s.heap.objs.size (.dK (kvsT tab)), I.laid (t' := s.toks) (fun b u e => (hs.2 b (Nat.ne_of_lt (Heap.lt_size e))).trans (Heap.get?_push_of_some _ e)) (Nat.le_refl _)
      (show ObjOk X.prog X.w _ _ _ (.dK (kvsT tab)) from ⟨by rw [hlen]; exact hz, hm, vs, rel, d'⟩), rfl, q _ (I.hok.fresh (Nat.le_refl _))⟩
  · obtain ⟨rfl, q⟩ := o
    obtain ⟨v, rfl, rv⟩ := rep1 r
    cases rv
    refine ⟨rfl, fun q' hq => f.newD hq (rep_tab tab) ?_⟩
    have e : (kvsT tab).map (fun p => keyD p.1) = tab.map fun p => D.str p.1 := by unfold kvsT; rw [List.map_map]; rfl
    rw [e]; exact q
theorem rm_dictG (h : GD X.K X.w X.mg x tab) (hg : Gl X x) (hgd : Gl X "dict") (hmd : X.mg "dict" = none) (hv : bootBuiltins "dict" = some (.type "dict")) (hd : (x == ("__debug__" : Str)) = false := by decide)
    (he : starEach [.Name x p1] X.env = [(false, eval (.Name x p1) X.env)] := by rfl) : RM X (.Call (.Name "dict" p2) [.Name x p1] [] pos) (rC (dctT tab)) := by
  obtain ⟨q, es, n, hm, hl, hs, hk, ht, hn, hz⟩ := h
  have g : PM X (.Name x p1) (pC (.adr q)) := pm_glob hg hm (v := .ref q) rfl (fun _ => .adr q) hd
  refine ⟨_, pm_callTy (cd_dictG hl hs hk ht hn hz) hgd hmd hv (pma_cons g pma_nil), fun A nb S k ex Q E hk he q => ⟨rfl, hk _ _ q⟩⟩
def oInG (q : Addr) (tab : List (Str × Str)) (neg : Bool) : Op2 := fun x y Q => y = .adr q ∧ ∃ z, x = .str z ∧ Q (.bl (if neg then !(tab.lookup z).isSome else (tab.lookup z).isSome))
theorem od_inG {p : Addr} {es : Array DictEntry} {n : Nat} (hl : X.K.lookup p = some ⟨.type "dict", none, .dict es n, #[]⟩) (hm : (p == sysModules) = false) (hk : PySem.W.KeysLit X.w.params es.toList) (ht : es.toList.map entTxt = tab.map some) :
    OpD X (compareOp .In) (oInG p tab false) := by
  refine ⟨_, op_in_kd ⟨hl, hk, hm⟩, fun H x y d e Q Q' rx ry o f => ?_⟩
  obtain ⟨rfl, z, rfl, q⟩ := o
  obtain ⟨r, e1, e2⟩ := nsIn_tab hl ht z
  cases rx; cases ry
  exact ⟨z, r, rfl, rfl, e1, by rw [e2]; exact f.at (.bl _) q⟩
theorem od_notInG {p : Addr} {es : Array DictEntry} {n : Nat} (hl : X.K.lookup p = some ⟨.type "dict", none, .dict es n, #[]⟩) (hm : (p == sysModules) = false) (hk : PySem.W.KeysLit X.w.params es.toList) (ht : es.toList.map entTxt = tab.map some) :
    OpD X (compareOp .NotIn) (oInG p tab true) := by
  refine ⟨_, op_notIn_kd ⟨hl, hk, hm⟩, fun H x y d e Q Q' rx ry o f => ?_⟩
  obtain ⟨rfl, z, rfl, q⟩ := o
  obtain ⟨r, e1, e2⟩ := nsIn_tab hl ht z
  cases rx; cases ry
  exact ⟨z, r, rfl, rfl, e1, by rw [e2]; exact f.at (.bl _) q⟩
def rInG (tab : List (Str × Str)) (neg : Bool) (ra : RE) : RE := fun S k e => ra S (fun x S1 => match x with
  | .str z => k (.bl (if neg then !(tab.lookup z).isSome else (tab.lookup z).isSome)) S1
  | _ => .bad) e
theorem snd_inG {q : Addr} {neg : Bool} (h : Snd ta ra) : Snd (pOp (oInG q tab neg) ta (pC (.adr q))) (rInG tab neg ra) := fun A nb S k ex Q E hk he h2 => h A nb S _ ex _ E (fun x S1 q1 => by
  split at q1
  · exact ⟨rfl, _, rfl, hk _ _ q1⟩
  · exact absurd q1 nb) he h2
theorem rmt_inG (h : GD X.K X.w X.mg x tab) (hg : Gl X x) (ha : RM X a ra) (h1 : behindInMarks .In (.Name x p1) = false := by rfl) (hd : (x == ("__debug__" : Str)) = false := by decide) : RMT X (.Compare a [.In] [.Name x p1] pos) (rTest (rInG tab false ra)) := by
  obtain ⟨q, es, n, hm, hl, hs, hk, ht, hn, hz⟩ := h
  obtain ⟨ta, pa, sa⟩ := ha
  have g : PM X (.Name x p1) (pC (.adr q)) := pm_glob hg hm (v := .ref q) rfl (fun _ => .adr q) hd
  exact ⟨_, pmt_cmp (od_inG hl hs hk ht) pa g h1, snd_test (snd_inG sa)⟩
theorem rmt_notInG (h : GD X.K X.w X.mg x tab) (hg : Gl X x) (ha : RM X a ra) (h1 : behindInMarks .NotIn (.Name x p1) = false := by rfl) (hd : (x == ("__debug__" : Str)) = false := by decide) : RMT X (.Compare a [.NotIn] [.Name x p1] pos) (rTest (rInG tab true ra)) := by
  obtain ⟨q, es, n, hm, hl, hs, hk, ht, hn, hz⟩ := h
  obtain ⟨ta, pa, sa⟩ := ha
  have g : PM X (.Name x p1) (pC (.adr q)) := pm_glob hg hm (v := .ref q) rfl (fun _ => .adr q) hd
  exact ⟨_, pmt_cmp (od_notInG hl hs hk ht) pa g h1, snd_test (snd_inG sa)⟩
end
end Pl
set_option Elab.async false
set_option linter.all false
set_option maxRecDepth 100000
set_option maxHeartbeats 4000000
/-! PlR4: sorted of texts -/
namespace Pl
open PySem PySem.Spec L2
open PyProof.Rows
def leS (x y : Str) : Prop := ¬ y.cps.toList < x.cps.toList
instance (x y : Str) : Decidable (leS x y) := inferInstanceAs (Decidable (¬ _))
theorem leS_iff {x y : Str} : leS x y ↔ x.cps.toList ≤ y.cps.toList := Iff.rfl
theorem leS_trans {x y z : Str} (h : leS x y) (h' : leS y z) : leS x z := by
  rw [leS_iff] at *; exact List.le_trans h h'
theorem leS_anti {x y : Str} (h : leS x y) (h' : leS y x) : x = y := by
  rw [leS_iff] at *
  have := List.le_antisymm h h'
  cases x; cases y; simp at this; subst this; rfl
theorem leS_total {x y : Str} (h : ¬ leS x y) : leS y x := by
  rw [leS_iff] at *; exact (List.le_total x.cps.toList y.cps.toList).resolve_left h
def insS (x : Str) : List Str → List Str
  | [] => [x]
  | y :: r => if leS x y then x :: y :: r else y :: insS x r
def sortS : List Str → List Str
  | [] => []
  | x :: r => insS x (sortS r)
theorem insS_perm (x : Str) : ∀ l, (insS x l).Perm (x :: l)
  | [] => .refl _
  | y :: r => by
    unfold insS
    split
    · exact .refl _
    · exact ((insS_perm x r).cons y).trans (.swap x y r)
theorem sortS_perm : ∀ l, (sortS l).Perm l
  | [] => .refl _
  | x :: r => (insS_perm x _).trans ((sortS_perm r).cons x)
theorem insS_sorted (x : Str) : ∀ l, l.Pairwise leS → (insS x l).Pairwise leS
  | [], _ => by simp [insS]
  | y :: r, h => by
    unfold insS
    obtain ⟨h1, h2⟩ := List.pairwise_cons.mp h
    split
    · rename_i hx
      refine List.pairwise_cons.mpr ⟨fun z hz => ?_, h⟩
      rcases List.mem_cons.mp hz with rfl | hz
      · exact hx
      · exact leS_trans hx (h1 z hz)
    · rename_i hx
      refine List.pairwise_cons.mpr ⟨fun z hz => ?_, insS_sorted x r h2⟩
      rcases List.mem_cons.mp ((insS_perm x r).mem_iff.mp hz) with rfl | hz
      · exact leS_total hx
      · exact h1 z hz
theorem sortS_sorted : ∀ l, (sortS l).Pairwise leS
  | [] => .nil
  | x :: r => insS_sorted x _ (sortS_sorted r)
theorem sortS_uniq {a b : List Str} (h : a.Perm b) (hs : a.Pairwise leS) : a = sortS b :=
  (h.trans (sortS_perm b).symm).eq_of_pairwise (fun x y _ _ h1 h2 => leS_anti h1 h2) hs (sortS_sorted b)
theorem rising_pw : ∀ (l : List Str) (p : Str), risingS p l = true → (p :: l).Pairwise leS
  | [], p, _ => by simp
  | x :: r, p, h => by
    unfold risingS at h
    rw [Bool.and_eq_true, Bool.not_eq_true', ltCps_eq, decide_eq_false_iff_not] at h
    have ih := rising_pw r x h.2
    refine List.pairwise_cons.mpr ⟨fun z hz => ?_, ih⟩
    rcases List.mem_cons.mp hz with rfl | hz
    · exact h.1
    · exact leS_trans h.1 ((List.pairwise_cons.mp ih).1 z hz)
theorem sortedS_pw {l : List Str} (h : sortedS l = true) : l.Pairwise leS := by
  cases l with
  | nil => exact .nil
  | cons x r => exact rising_pw r x h
def oSortedS : OpN := fun ds Q => ∃ xs ns, ds = [.lst xs] ∧ strsD xs = some ns ∧ ns.length < 64 ∧ Q (.lst ((sortS ns).map D.str))
theorem cd_sortedS {X : Cx} : CallD X (.builtin "sorted") oSortedS := ⟨_, CallR_frz cr_sortedS, fun H xs ds Q Q' r o f => by
  obtain ⟨ys, ns, rfl, h1, h2, q⟩ := o
  obtain ⟨v, rfl, rv⟩ := rep1 r
  cases rv with
  | lst hq ha =>
    obtain rfl := strs_rep ha h1
    refine ⟨_, ns, rfl, hq.sq, h2, fun ns' p hp hs hn => ?_⟩
    rw [sortS_uniq hp (sortedS_pw hs)]
    exact f.newL hn (rep_strs _) q⟩
def fSortedS (ds : List D) : Option D := match ds with
  | [.lst xs] => (match strsD xs with
    | some ns => if ns.length < 64 then some (.lst ((sortS ns).map D.str)) else none
    | none => none)
  | _ => none
theorem cf_sortedS {X : Cx} : CallFn X (.builtin "sorted") fSortedS := ⟨_, cd_sortedS, fun x z Q h q => by
  unfold fSortedS at h
  split at h
  · split at h
    · rename_i ns h1
      split at h
      · rename_i h2; cases h; exact ⟨_, ns, rfl, h1, h2, q⟩
      · cases h
    · cases h
  · cases h⟩
section
variable {P : Program} {w : World} {K : PySem.W.Frag} {mg : Str → Option Value} {base : Heap}
theorem rec2_of {x y : Str} {n n' b : Nat} {F G : Nat → RFn} {ps qs : List Str} {st tt : Stmt} (T : TopD K mg x ps st) (hn : ps.length = n) (U : TopD K mg y qs tt) (hn' : qs.length = n') (h0 : ∀ ds W, F 0 ds W = .bad) (g0 : ∀ ds W, G 0 ds W = .bad)
    (step : ∀ m k, b ≤ k → CallF P w K mg base x n k (φR (F m)) → CallF P w K mg base y n' k (φR (G m)) → CallF P w K mg base x n (k + 1) (φR (F (m + 1))) ∧ CallF P w K mg base y n' (k + 1) (φR (G (m + 1)))) :
    ∀ m, CallF P w K mg base x n (b + m) (φR (F m)) ∧ CallF P w K mg base y n' (b + m) (φR (G m))
  | 0 => ⟨low_none T hn fun ds W Q E h => by
      unfold φR at h
      rw [h0] at h
      exact h, low_none U hn' fun ds W Q E h => by
      unfold φR at h
      rw [g0] at h
      exact h⟩
  | m + 1 =>
    let ⟨h1, h2⟩ := rec2_of T hn U hn' h0 g0 step m
    step m (b + m) (Nat.le_add_right _ _) h1 h2
end
section
variable {X : Cx} {a b c : Expr} {ta tb tc : PTE} {pos : Pos} {o o' : Op2} {ra rb rc : RE}
theorem pmt_chain {op op' : CmpOp} (ho : OpD X (compareOp op) o) (ho' : OpD X (compareOp op') o') (ha : PM X a ta) (hb : PM X b tb) (hc : PM X c tc) (hm : lastMarks [op, op'] [b, c] = false := by with_unfolding_all rfl) :
    PMT X (.Compare a [op, op'] [b, c] pos) (pTest (pChain o o' ta tb tc)) := fun W tk => by
  obtain ⟨r, hr, hl⟩ := ho
  obtain ⟨r', hr', hl'⟩ := ho'
  refine weakT (pt_chain hr hr' (ha W tk) (hb W tk) (hc W tk) hm) ?_
  rintro σ H Q ⟨S, Q', E', rel, q, up0, ux⟩
  have up : Up X.K σ S H (fun x H1 => ∃ b, x = V.bl b ∧ Q b H1) (fun d S1 => ∃ b, d = D.bl b ∧ Q' b S1) := fun v d H1 S1 n1 r1 p1 q1 => by
    obtain ⟨b, rfl, q1⟩ := q1
    cases p1
    exact ⟨b, rfl, up0 _ _ _ n1 r1 q1⟩
  refine ⟨S, _, E', rel, q, fun v d H1 S1 n1 r1 p1 q1 => ?_, ux⟩
  refine ⟨S1, _, E', r1, q1, fun w e H2 S2 n2 r2 p2 q2 => ?_, ux.thn n1⟩
  refine hl H2 v w d e _ _ (p1.nx n2) p2 q2 fun z cz H3 s3 rz q3 => ?_
  obtain ⟨k, rfl, q3⟩ := q3
  cases rz
  refine ⟨k, rfl, ?_⟩
  have n3 : Nx σ S H σ S2 H3 := (n1.trans n2).trans (.same s3)
  cases k with
  | true =>
    refine ⟨S2, _, E', r2.same s3, q3, fun u cu H4 S4 n4 r4 p4 q4 => ?_, ux.thn n3⟩
    exact hl' H4 w u e cu _ _ ((p2.step (Step.of_same (A := fun _ => False) s3)).nx n4) p4 q4 (up.fin (n3.trans n4) r4)
  | false => exact up _ _ _ _ n3 (r2.same s3) (.bl _) q3
theorem rmt_chain {op op' : CmpOp} {f g : D → D → Option D} (ho : OpF X (compareOp op) f) (ho' : OpF X (compareOp op') g) (ha : RM X a ra) (hb : RM X b rb) (hc : RM X c rc) (hm : lastMarks [op, op'] [b, c] = false := by with_unfolding_all rfl) :
    RMT X (.Compare a [op, op'] [b, c] pos) (rTest (rChain f g ra rb rc)) := by
  obtain ⟨o, ho, h⟩ := ho; obtain ⟨o', ho', h'⟩ := ho'; obtain ⟨ta, pa, sa⟩ := ha; obtain ⟨tb, pb, sb⟩ := hb; obtain ⟨tc, pc, sc⟩ := hc
  exact ⟨_, pmt_chain ho ho' pa pb pc hm, snd_test (fun A nb S k ex Q E hk he q => sa A nb S _ ex _ E (fun x S1 q1 => sb A nb S1 _ ex _ E (fun y S2 q2 => by
    obtain ⟨z, e1, e2⟩ := thnO_ok nb q2
    refine h _ _ _ _ e1 ?_
    obtain ⟨b, rfl, e3⟩ := blK_ok nb e2
    refine ⟨b, rfl, ?_⟩
    cases b with
    | true => exact sc A nb S2 _ ex _ E (fun w S3 q3 => by
        obtain ⟨u, e4, e5⟩ := thnO_ok nb q3
        exact h' _ _ _ _ e4 (hk _ _ e5)) he e3
    | false => exact hk _ _ e3) he q1) he q)⟩
end
end Pl
set_option Elab.async false
set_option linter.all false
set_option maxRecDepth 100000
set_option maxHeartbeats 4000000
/-! KtW: loops as values that are changed -/
namespace Kt
open PySem PySem.Spec L2 Pl
/-- the name of a def's lambdas -/
abbrev lamQ (x : Str) : Str := x ++ (".<locals>." : Str) ++ ("<lambda>" : Str)
/-- a loop as a value -/
def Val (W : Addr → Option Own) (C p : Addr) (L : Loop) : Prop := W p = some (.ins C ["base"] [encL L])
/-- a loop with one more statement, with another greatest working time: as data -/
def addD (L : Loop) (v : D) : D := .tup [.int L.least, .int L.most, .int L.first, .tup (encSs L.body ++ [v])]
def mostD (L : Loop) (v : D) : D := .tup [.int L.least, v, .int L.first, encB L.body]
def smallD (v : D) : Bool := v.gd 20
def φ_with_statement (C : Addr) : PFn := fun ds W Q E => ∃ L v, ds = [encL L, v] ∧ okL L = true ∧ smallD v = true ∧ (isLoop (addD L v) = true → Q (addD L v) W) ∧ (isLoop (addD L v) = false → E ⟨.ref C, none⟩ W)
def φ_less_number (C : Addr) : PFn := fun ds W Q E => ∃ L v, ds = [encL L, v] ∧ okL L = true ∧ v.dat = true ∧ (isNum v 0 ((listedB L.body).length - 1) = false → E ⟨.ref C, none⟩ W) ∧ (∀ k, v = .int k → inR 0 ((listedB L.body).length - 1) k = true → Q (encL (less L k)) W)
def φ_with_most (C : Addr) : PFn := fun ds W Q E => ∃ L v, ds = [encL L, v] ∧ okL L = true ∧ smallD v = true ∧ (isLoop (mostD L v) = true → Q (mostD L v) W) ∧ (isLoop (mostD L v) = false → E ⟨.ref C, none⟩ W)
def φ_Loop_init (C : Addr) : PFn := fun ds W Q _ => ∃ p L, ds = [.adr p, .int L.least, .int L.most, .int L.first, encB L.body] ∧ okL L = true ∧ W p = some (.ins C [] []) ∧ Q .non (updW W p (.ins C ["base"] [encL L]))
def φ_Loop_source (C : Addr) : PFn := fun ds W Q _ => ∃ p L, ds = [.adr p] ∧ Val W C p L ∧ Q (encL L) W
def φ_Loop_iadd (C X : Addr) : PFn := fun ds W Q E => ∃ p L v, ds = [.adr p, v] ∧ okL L = true ∧ Val W C p L ∧ smallD v = true ∧ (∀ L', okL L' = true → encL L' = addD L v → Q (.adr p) (updW W p (.ins C ["base"] [encL L']))) ∧ (isLoop (addD L v) = false → E ⟨.ref X, none⟩ W)
def φ_Loop_isub (C X : Addr) : PFn := fun ds W Q E => ∃ p L v, ds = [.adr p, v] ∧ okL L = true ∧ Val W C p L ∧ v.dat = true ∧ (isNum v 0 ((listedB L.body).length - 1) = false → E ⟨.ref X, none⟩ W) ∧ (∀ k, v = .int k → inR 0 ((listedB L.body).length - 1) k = true → Q (.adr p) (updW W p (.ins C ["base"] [encL (less L k)])))
def φ_Loop_imul (C X : Addr) : PFn := fun ds W Q E => ∃ p L v, ds = [.adr p, v] ∧ okL L = true ∧ Val W C p L ∧ smallD v = true ∧ (∀ L', okL L' = true → encL L' = mostD L v → Q (.adr p) (updW W p (.ins C ["base"] [encL L']))) ∧ (isLoop (mostD L v) = false → E ⟨.ref X, none⟩ W)
def φ_Loop_getitem (C X : Addr) : PFn := fun ds W Q E => ∃ p L v, ds = [.adr p, v] ∧ okL L = true ∧ Val W C p L ∧ v.dat = true ∧ isNum v 0 ((listedB L.body).length - 1) = false ∧ E ⟨.ref X, none⟩ W
def φ_Loop_eq (C : Addr) : PFn := fun ds W Q _ => ∃ p q L L', ds = [.adr p, .adr q] ∧ okL L = true ∧ okL L' = true ∧ Val W C p L ∧ Val W C q L' ∧ Q (.bl (eqD (encL L) (encL L'))) W
def φ__law_value (C : Addr) : PFn := fun ds W Q _ => ∃ L, ds = [encL L] ∧ okL L = true ∧ ∀ p, W p = none → Q (.adr p) (updW W p (.ins C ["base"] [encL L]))
def φ__law_grown (C X : Addr) : PFn := fun ds W Q E => φ_Loop_iadd C X ds W (fun _ W' => Q .non W') E
def φ__law_fewer (C X : Addr) : PFn := fun ds W Q E => φ_Loop_isub C X ds W (fun _ W' => Q .non W') E
def φ__law_timed (C X : Addr) : PFn := fun ds W Q E => φ_Loop_imul C X ds W (fun _ W' => Q .non W') E
theorem con_val {W : Addr → Option Own} {C p : Addr} {L : Loop} (h : Val W C p L) (ρ : List Slot) : con ⟨ρ, W⟩ (.val (.adr p)) = .own (.ins C ["base"] [encL L]) := con_ins h
theorem getN_base (d : D) : getN "base" ["base"] [d] = some d := by unfold getN; simp [List.lookup]
theorem putN_base (d e : D) : putN "base" d ["base"] [e] = ([("base" : Str)], [d]) := by unfold putN; simp
theorem putN_nil (d : D) : putN "base" d [] [] = ([("base" : Str)], [d]) := rfl
theorem updW_val {W : Addr → Option Own} {C p : Addr} {L : Loop} : Val (updW W p (.ins C ["base"] [encL L])) C p L := updW_self ..
theorem updW_ne {W : Addr → Option Own} {p q : Addr} {o : Own} (h : q ≠ p) : updW W p o q = W q := if_neg h
theorem insW_mk {ρ : List Slot} {W : Addr → Option Own} {C p : Addr} {ns : List Str} {ds : List D} {F : Addr → List Str → List D → Prop} (h : W p = some (.ins C ns ds)) : insW ⟨ρ, W⟩ C (.adr p) F = F p ns ds := by
  apply propext
  constructor
  · rintro ⟨q, ms, es, e, h2, r⟩
    cases e
    have h2 : W p = some (.ins C ms es) := h2
    rw [h] at h2; cases h2; exact r
  · exact fun r => ⟨p, ns, ds, rfl, h, r⟩
theorem insW_val {ρ : List Slot} {W : Addr → Option Own} {C p : Addr} {L : Loop} {F : Addr → List Str → List D → Prop} (h : Val W C p L) : insW ⟨ρ, W⟩ C (.adr p) F = F p ["base"] [encL L] := insW_mk h
theorem len_b : (([("base" : Str)] : List Str).length < 1000) = True := by simp
theorem len_n : (([] : List Str).length < 1000) = True := by simp
theorem small_good {L : Loop} {v : D} (hL : okL L = true) (hv : smallD v = true) : (addD L v).good = true := by
  have hB := gd_B (okL_iff.mp hL).2.1
  refine gd_good (n := 30) ?_
  unfold addD
  rw [gd_tup, List.all_eq_true]
  intro d hd
  simp only [List.mem_cons, List.not_mem_nil, or_false] at hd
  rcases hd with rfl | rfl | rfl | rfl
  · rfl
  · rfl
  · rfl
  · rw [gd_tup, List.all_append, Bool.and_eq_true]
    unfold encB at hB
    rw [gd_tup] at hB
    refine ⟨?_, ?_⟩
    · rw [List.all_eq_true] at hB ⊢
      exact fun x hx => gd_mono (hB x hx) (by decide)
    · simp only [List.all_cons, List.all_nil, Bool.and_true]
      exact gd_mono hv (by decide)
theorem most_good {L : Loop} {v : D} (hL : okL L = true) (hv : smallD v = true) : (mostD L v).good = true := by
  have hB := gd_B (okL_iff.mp hL).2.1
  refine gd_good (n := 30) ?_
  unfold mostD
  rw [gd_tup, List.all_eq_true]
  intro d hd
  simp only [List.mem_cons, List.not_mem_nil, or_false] at hd
  rcases hd with rfl | rfl | rfl | rfl
  · rfl
  · exact gd_mono hv (by decide)
  · rfl
  · exact gd_mono hB (by decide)
/-! ### what comes of a change -/
def snoc (L : Loop) (s : Stm) : Loop := { L with body := L.body ++ [s] }
def mostL (L : Loop) (m : Int) : Loop := { L with most := m }
theorem encL_snoc (L : Loop) (s : Stm) : encL (snoc L s) = addD L (encS s) := by
  unfold encL addD snoc encB
  simp only [encSs_map, List.map_append, List.map_cons, List.map_nil]
theorem encL_most (L : Loop) (m : Int) : encL (mostL L m) = mostD L (.int m) := rfl
theorem okL_pre {L : Loop} {b r : List Stm} (h : okL { L with body := b ++ r } = true) : okL { L with body := b } = true := by
  rw [okL_iff] at h ⊢
  obtain ⟨h1, h2, h3⟩ := h
  have h3 : (listedB (b ++ r)).length ≤ 12 := h3
  rw [listedB_append, List.length_append] at h3
  rw [okB_iff] at h2
  obtain ⟨h4, h5⟩ := h2
  have h4 : (b ++ r).length ≤ 8 := h4
  rw [List.length_append] at h4
  exact ⟨h1, okB_iff.mpr ⟨by show b.length ≤ 8; omega, fun s hs => h5 s (List.mem_append_left _ hs)⟩, by show (listedB b).length ≤ 12; omega⟩
theorem small_S {d : Nat} {s : Stm} (h : okS d s = true) (hd : d ≤ 3 := by decide) : smallD (encS s) = true := gd_mono (okS_succ d s h) (by omega)
theorem add_iff {L : Loop} {v : D} : isLoop (addD L v) = true ↔ ∃ s, v = encS s ∧ okL (snoc L s) = true := by
  constructor
  · intro h
    obtain ⟨L', hL', e⟩ := isLoop_iff.mp h
    unfold addD encL encB at e
    simp only [D.tup.injEq, List.cons.injEq, D.int.injEq, and_true] at e
    obtain ⟨e1, e2, e3, e4⟩ := e
    have len : (encSs L.body).length + 1 = L'.body.length := by
      have := congrArg List.length e4
      rw [encSs_map L'.body] at this
      simpa using this
    have hv : v ∈ encSs L'.body := by rw [← e4]; simp
    rw [encSs_map] at hv
    obtain ⟨s, hs, rfl⟩ := List.mem_map.mp hv
    refine ⟨s, rfl, ?_⟩
    obtain ⟨h1, h2, h3⟩ := okL_iff.mp hL'
    have h3s := (okB_iff.mp h2).2
    have body : isBod 3 (.tup (encSs L.body ++ [encS s])) = true := by rw [e4]; exact isBod_iff.mpr ⟨_, h2, rfl⟩
    obtain ⟨b, hb, eb⟩ := isBod_iff.mp body
    have eb : encSs L.body ++ [encS s] = encSs b := by simpa [encB] using eb
    have e5 : encL (snoc L s) = encL L' := by
      rw [encL_snoc]; unfold addD encL encB; rw [e1, e2, e3, e4]
    have key : isLoop (encL (snoc L s)) = true := by rw [e5]; exact isLoop_iff.mpr ⟨L', hL', rfl⟩
    obtain ⟨L2, h5, h6⟩ := isLoop_iff.mp key
    rw [encL_inj h6]; exact h5
  · rintro ⟨s, rfl, h⟩
    rw [← encL_snoc]
    exact isLoop_iff.mpr ⟨_, h, rfl⟩
theorem most_iff {L : Loop} {v : D} (h : okL L = true) : isLoop (mostD L v) = true ↔ ∃ m, v = .int m ∧ L.least ≤ m ∧ m ≤ 8 := by
  obtain ⟨⟨h0, h1, h2, h3, h4⟩, h5, h6⟩ := okL_iff.mp h
  constructor
  · intro hl
    obtain ⟨L', hL', e⟩ := isLoop_iff.mp hl
    obtain ⟨⟨a0, a1, a2, a3, a4⟩, _⟩ := okL_iff.mp hL'
    unfold mostD encL at e
    simp only [D.tup.injEq, List.cons.injEq, D.int.injEq, and_true] at e
    obtain ⟨e1, rfl, e3, e4⟩ := e
    exact ⟨_, rfl, by omega, by omega⟩
  · rintro ⟨m, rfl, hm, hm2⟩
    rw [← encL_most]
    exact isLoop_iff.mpr ⟨mostL L m, okL_iff.mpr ⟨⟨h0, hm, hm2, h3, h4⟩, h5, h6⟩, rfl⟩
def odds : List D := [.non, .tup [.str "wait", .int 0], .str "until", .lst [.str "until"], .tup [.str "late", .int 1], .tup [.str "if", .tup [.str "due"], .tup []], .tup []]
theorem odds_small : ∀ v ∈ odds, smallD v = true ∧ v.good = true := by
  intro v hv
  have := List.all_eq_true.mp (show (odds.all fun v => smallD v && v.good) = true by decide +kernel) v hv
  simpa using this
theorem odds_no {L : Loop} {v : D} (hv : v ∈ odds) : isLoop (addD L v) = false := by
  cases h : isLoop (addD L v) with
  | false => rfl
  | true =>
    obtain ⟨s, rfl, hs⟩ := add_iff.mp h
    have h3 : okS 3 s = true := (okB_iff.mp (okL_iff.mp hs).2.1).2 s (by show s ∈ L.body ++ [s]; simp)
    have h4 := (isStm_iff 3 _).mpr ⟨s, h3, rfl⟩
    have := List.all_eq_true.mp (show (odds.all fun v => !isStm 3 v) = true by decide +kernel) _ hv
    rw [h4] at this
    cases this
theorem odds_ne {s : Stm} (h : simS s = true) {v : D} (hv : v ∈ odds) : eqD (encS s) v = false := by
  cases e : eqD (encS s) v with
  | false => rfl
  | true =>
    exfalso
    simp only [odds, List.mem_cons, List.not_mem_nil, or_false] at hv
    rcases hv with rfl | rfl | rfl | rfl | rfl | rfl | rfl <;> cases s <;> simp [encS, eqD, D.py, D.pys, PyData.eqv, PyData.eqvAll] at e <;> first | (obtain ⟨hz, _⟩ := e; exact absurd hz (by decide +kernel)) | (obtain ⟨_, rfl⟩ := e; simp [simS, inR] at h) | (subst e; simp [simS, inR] at h) | (cases h) | (revert e; decide +kernel) | skip
theorem snoc_iff {L : Loop} {s : Stm} (h : okL L = true) (hs : simS s = true) : okL (snoc L s) = true ↔ L.body.length < 8 ∧ (listedB L.body).length < 12 := by
  obtain ⟨h1, h2, h3⟩ := okL_iff.mp h
  obtain ⟨h4, h5⟩ := okB_iff.mp h2
  have l1 : (listedB [s]).length = 1 := by cases s <;> first | rfl | cases hs
  rw [okL_iff]
  unfold snoc
  simp only [listedB_append, List.length_append, l1]
  rw [okB_iff, List.length_append]
  constructor
  · rintro ⟨_, ⟨a, _⟩, b⟩
    simp only [List.length_singleton] at a
    exact ⟨by omega, by omega⟩
  · rintro ⟨a, b⟩
    refine ⟨h1, ⟨by simp only [List.length_singleton]; omega, fun x hx => ?_⟩, by omega⟩
    rcases List.mem_append.mp hx with z | z
    · exact h5 x z
    · rw [List.mem_singleton.mp z]; exact simS_ok hs 2
def φ__law_change (C P : Addr) : PFn := fun ds W Q _ => ∃ a p L, ds = [.adr a, .adr p, encL L] ∧ okL L = true ∧ Src W a ∧ Val W C p L ∧ W P = some (.tbl (lamQ "_law_change")) ∧
  ∀ L' W', okL L' = true → Val W' C p L' → Src W' a → (∀ b, b ≠ a → b ≠ p → W' b = W b) → Q (encL L') W'
theorem dr_at {W W' : Addr → Option Own} {a b : Addr} (d : Dr W a W') (h : b ≠ a) : W' b = W b := by
  obtain ⟨x, y, rfl⟩ := d
  exact updW_ne h
theorem src_upd {W : Addr → Option Own} {a p : Addr} {o : Own} (h : Src W a) (n : a ≠ p) : Src (updW W p o) a := by
  obtain ⟨x, y, h⟩ := h
  exact ⟨x, y, (updW_ne n).trans h⟩
theorem cut_add (L : Loop) (v : D) : D.tup (cutD [D.int L.least, D.int L.most, D.int L.first, D.tup (encSs L.body)] none (some 3) ++ [D.tup (encSs L.body ++ [v])]) = addD L v := by
  rw [show (3 : Int) = ((3 : Nat) : Int) from rfl, cut_to _ _ (by simp)]; rfl
theorem cut_most (L : Loop) (v : D) : D.tup (D.int L.least :: v :: cutD [D.int L.least, D.int L.most, D.int L.first, D.tup (encSs L.body)] (some 2) none) = mostD L v := by
  rw [show (2 : Int) = ((2 : Nat) : Int) from rfl, cut_from _ _ (by simp)]; rfl
theorem cut_len (L : Loop) : (cutD [D.int L.least, D.int L.most, D.int L.first, D.tup (encSs L.body)] none (some 3)).length + 1 ≤ sizeLine := by show _ ≤ 2 ^ 24; simp [cutD, HT.sIx] <;> omega
theorem cut_len2 (L : Loop) : 2 + (cutD [D.int L.least, D.int L.most, D.int L.first, D.tup (encSs L.body)] (some 2) none).length ≤ sizeLine := by show _ ≤ 2 ^ 24; simp [cutD, HT.sIx] <;> omega
theorem add_no {L : Loop} {s : Stm} (hL : okL L = true) (hs : simS s = true) (h : ¬ (L.body.length < 8 ∧ (listedB L.body).length < 12)) : isLoop (addD L (encS s)) = false := by
  cases e : isLoop (addD L (encS s)) with
  | false => rfl
  | true =>
    obtain ⟨t, e1, e2⟩ := add_iff.mp e
    rw [← encS_inj _ _ e1] at e2
    exact absurd ((snoc_iff hL hs).mp e2) h
theorem isNum_out {n a b : Int} (h : ¬ (a ≤ n ∧ n ≤ b)) : isNum (.int n) a b = false := by
  cases e : isNum (.int n) a b with
  | false => rfl
  | true =>
    obtain ⟨m, h1, h2⟩ := isNum_iff.mp e
    cases h2
    simp only [inR, Bool.and_eq_true, decide_eq_true_eq] at h1
    exact absurd h1 h
theorem isNum_in {n a b : Int} (h : a ≤ n ∧ n ≤ b) : isNum (.int n) a b = true := isNum_iff.mpr ⟨n, by simp only [inR, Bool.and_eq_true, decide_eq_true_eq]; exact h, rfl⟩
theorem most_no {L : Loop} {v : D} (hL : okL L = true) (h : ∀ m, v = .int m → ¬ (L.least ≤ m ∧ m ≤ 8)) : isLoop (mostD L v) = false := by
  cases e : isLoop (mostD L v) with
  | false => rfl
  | true =>
    obtain ⟨m, h1, h2, h3⟩ := (most_iff hL).mp e
    exact absurd ⟨h2, h3⟩ (h m h1)
theorem wg1 : D.good (.str "none") = true := by decide +kernel
theorem wg2 : D.good (.str "statement") = true := by decide +kernel
theorem wg3 : D.good (.str "number") = true := by decide +kernel
theorem wg4 : D.good (.str "loop") = true := by decide +kernel
/-- both tables -/
def Tb (W : Addr → Option Own) (P P2 : Addr) : Prop := W P = some (.tbl (lamQ "law")) ∧ W P2 = some (.tbl (lamQ "_law_change"))
def φ_law20 (P P2 : Addr) : PFn := fun ds W Q _ => ∃ xs : List Int, ds = [.lst (xs.map D.int)] ∧ xs.length ≤ 63 ∧ Tb W P P2 ∧ ∀ W', Q (.bl true) W'
theorem Tb.upd {W : Addr → Option Own} {P P2 p : Addr} {o : Own} (h : Tb W P P2) (n : W p = none ∨ ∃ C ns ds, W p = some (.ins C ns ds)) : Tb (updW W p o) P P2 := by
  have key : ∀ b q, W b = some (Own.tbl q) → b ≠ p := fun b q e z => by
    subst z
    rcases n with n | ⟨_, _, _, n⟩ <;> (rw [e] at n; cases n)
  exact ⟨(updW_ne (key _ _ h.1)).trans h.1, (updW_ne (key _ _ h.2)).trans h.2⟩
theorem Tb.dr {W W' : Addr → Option Own} {P P2 a : Addr} (h : Tb W P P2) (d : Dr W a W') (n : W a = none ∨ Src W a) : Tb W' P P2 := by
  have key : ∀ b q, W b = some (Own.tbl q) → b ≠ a := fun b q e z => by
    subst z
    rcases n with n | ⟨_, _, n⟩ <;> (rw [e] at n; cases n)
  exact ⟨(dr_at d (key _ _ h.1)).trans h.1, (dr_at d (key _ _ h.2)).trans h.2⟩
theorem Tb.other {W W' : Addr → Option Own} {P P2 a p : Addr} {C : Addr} {L : Loop} (h : Tb W P P2) (o : ∀ b, b ≠ a → b ≠ p → W' b = W b) (n : Src W a) (v : Val W C p L) : Tb W' P P2 := by
  have key : ∀ b q, W b = some (Own.tbl q) → b ≠ a ∧ b ≠ p := fun b q e => by
    obtain ⟨x, y, n⟩ := n
    have v : W p = _ := v
    exact ⟨fun z => by (subst z; rw [e] at n; cases n), fun z => by (subst z; rw [e] at v; cases v)⟩
  exact ⟨(o _ (key _ _ h.1).1 (key _ _ h.1).2).trans h.1, (o _ (key _ _ h.2).1 (key _ _ h.2).2).trans h.2⟩
end Kt
set_option Elab.async false
set_option linter.all false
set_option maxRecDepth 100000
set_option maxHeartbeats 4000000
namespace Kp
open PySem PySem.Spec L2 Pl Kt
open PyProof.Rows (envOfC boot_int boot_bool boot_str boot_tuple boot_list boot_dict)
local macro_rules | `(tactic| walk_at "pls") => `(tactic| try simp only [↓pC, ↓pOp, ↓pUn, ↓pSl, ↓pPart, ↓pNil, ↓pCons, ↓pTup, ↓pLst, ↓pCallB, ↓pTest, ↓pNot, ↓pAnd, ↓pOr, ↓pAndV, ↓pOrV, ↓pNotV, ↓pIf, ↓pNext, ↓pSeq, ↓pBreak, ↓pCont, ↓pDrop, ↓pRet, ↓pRetN, ↓pIfS, ↓pgNil, ↓pgCons, ↓pgTup, ↓pAsg, ↓pRaise, ↓pCall, ↓pIter, ↓pFor, ↓pLc, ↓pYes, ↓pkOf, ↓pIxK, ↓pTabG, ↓pLenK, ↓pChain, ↓pStore, ↓pAppend, ↓pPop, ↓poLst, ↓poDct, ↓pNewW, ↓pRng1, ↓pRng2, ↓pTry, ↓pTryAs, ↓oEq, ↓oNe, ↓oLen, ↓oSum, ↓oAll, ↓oAny, ↓oIsi, start0, List.map_cons, List.map_nil, List.length_cons, List.length_nil, List.cons_append, List.nil_append, List.getElem?_cons_zero, List.getElem?_cons_succ, List.set_cons_zero, List.set_cons_succ, List.replicate, D.bl.injEq, D.int.injEq, D.str.injEq, D.tup.injEq, D.lst.injEq, exists_eq_left', exists_eq_left, Option.some.injEq, Bool.false_eq_true, if_true, if_false, true_and, and_true, false_and, and_false, isi_int, isi_bool, isi_str, isi_tuple, isi_list, isiT_int, isiT_bool, isiT_str, isiT_tuple, isiT_list, Bool.not_true, Bool.not_false, dat_non, dat_bl, dat_int, dat_str, dat_tup, dat_lst, isInt_non, isInt_bl, isInt_int, isInt_str, isInt_tup, isInt_lst, isBool_non, isBool_bl, isBool_int, isBool_str, isBool_tup, isBool_lst, isStr_non, isStr_bl, isStr_int, isStr_str, isStr_tup, isStr_lst, isTup_non, isTup_bl, isTup_int, isTup_str, isTup_tup, isTup_lst, isLst_non, isLst_bl, isLst_int, isLst_str, isLst_tup, isLst_lst, Nat.reduceAdd, Nat.zero_add, sz_0, sz_1, sz_2, sz_3, sz_4, sz_5, sz_6, sz_7, sz_8, sz_9, sz_10, sz_11, sz_12, List.any_cons, List.any_nil, eqD_tup, eqD_str, eqD_int, eqDs_cons, eqDs_nil, eqDs_cn, eqDs_nc, Bool.or_false, Bool.and_true, at0, at1, at2, at3, at4, good_int, good_bl, good_nil, good_nilL, good_non, eqDs_nil_r, eqDs_nil_l, List.isEmpty_nil, List.isEmpty_cons, Bool.and_false, Bool.or_true, Bool.false_or, Bool.true_or, Bool.false_and, Bool.true_and, encB, wipS_mk, List.foldr_cons, List.foldr_nil, con_updW, ↓ixC_ownD, ↓oIx_tup, ↓oIx_lst, ↓oIx_str, ↓lenC_ownL, ↓lenC_ownD, ↓setC_ownD, putC_adr, Own_lst_inj, Con_own_inj, updW_upd, Nat.reduceSub, Nat.sub_self, ↓itD_lst, ↓itD_tup, ↓oInt_i, ↓oCmp_i, ↓oAdd_i, ↓oAdd_s, ↓oAdd_t, ↓oAdd_l, ↓oNeg_i, ↓o1I_i, ↓o2I_i, ↓oSl_t, ↓oSl_l, ↓oList_t, ↓oList_l, ↓oTuple_t, ↓oTuple_l, ↓oIn_t, ↓oIn_l, ↓oIsN_n, ↓ixC_ownLi, ↓setC_ownLi, ixN20, ixN21, ex_int1, ex_int2, ↓pSet_eq, ↓ixK_tup, ↓ixK_lst, ↓ixK_str, ↓ixK_dct, ↓lenK_tup, ↓lenK_lst, ↓lenK_str, ↓pSetO_eq, ↓pPar_eq, ↓kPar_mk, ↓pGet2, ↓pFrzO_eq, ↓kFrz_lst, ↓kFrz_dct, ↓pPairs_nil, ↓pPairs_cons, ↓poDisp, ↓getC_val, isDc_val, ↓poCat, ↓catD_l, ↓pVarV0, ↓pVarV1, ↓pVarV2, ↓pVarV3, ↓pVarV4, ↓pVarV5, ↓pVarV6, ↓pVarV7, ↓pVarV8, ↓pVarV9, ↓pVarV10, ↓pVarV11, ↓pVarV12, ↓pVarV13, ↓pVarV14, ↓pVarV15, ↓pVarV16, ↓pVarV17, ↓pVarV18, ↓pVarV19, ↓pVarV20, ↓pVarV21, ↓pVarV22, ↓pVarV23, ↓pVarL0, ↓pVarL1, ↓pVarL2, ↓pVarL3, ↓pVarL4, ↓pVarL5, ↓pVarL6, ↓pVarL7, ↓pVarL8, ↓pVarL9, ↓pVarL10, ↓pVarL11, ↓pVarL12, ↓pVarL13, ↓pVarL14, ↓pVarL15, ↓pVarL16, ↓pVarL17, ↓pVarL18, ↓pVarL19, ↓pVarL20, ↓pVarL21, ↓pVarL22, ↓pVarL23, ↓pVarD0, ↓pVarD1, ↓pVarD2, ↓pVarD3, ↓pVarD4, ↓pVarD5, ↓pVarD6, ↓pVarD7, ↓pVarD8, ↓pVarD9, ↓pVarD10, ↓pVarD11, ↓pVarD12, ↓pVarD13, ↓pVarD14, ↓pVarD15, ↓pVarD16, ↓pVarD17, ↓pVarD18, ↓pVarD19, ↓pVarD20, ↓pVarD21, ↓pVarD22, ↓pVarD23, ↓pkVarV0, ↓pkVarV1, ↓pkVarV2, ↓pkVarV3, ↓pkVarV4, ↓pkVarV5, ↓pkVarV6, ↓pkVarV7, ↓pkVarV8, ↓pkVarV9, ↓pkVarV10, ↓pkVarV11, ↓pkVarV12, ↓pkVarV13, ↓pkVarV14, ↓pkVarV15, ↓pkVarV16, ↓pkVarV17, ↓pkVarV18, ↓pkVarV19, ↓pkVarV20, ↓pkVarV21, ↓pkVarV22, ↓pkVarV23, ↓pkVarO0, ↓pkVarO1, ↓pkVarO2, ↓pkVarO3, ↓pkVarO4, ↓pkVarO5, ↓pkVarO6, ↓pkVarO7, ↓pkVarO8, ↓pkVarO9, ↓pkVarO10, ↓pkVarO11, ↓pkVarO12, ↓pkVarO13, ↓pkVarO14, ↓pkVarO15, ↓pkVarO16, ↓pkVarO17, ↓pkVarO18, ↓pkVarO19, ↓pkVarO20, ↓pkVarO21, ↓pkVarO22, ↓pkVarO23, ↓kSetN0, ↓kSetN1, ↓kSetN2, ↓kSetN3, ↓kSetN4, ↓kSetN5, ↓kSetN6, ↓kSetN7, ↓kSetN8, ↓kSetN9, ↓kSetN10, ↓kSetN11, ↓kSetN12, ↓kSetN13, ↓kSetN14, ↓kSetN15, ↓kSetN16, ↓kSetN17, ↓kSetN18, ↓kSetN19, ↓kSetN20, ↓kSetN21, ↓kSetN22, ↓kSetN23, ↓kSetO_N0, ↓kSetO_N1, ↓kSetO_N2, ↓kSetO_N3, ↓kSetO_N4, ↓kSetO_N5, ↓kSetO_N6, ↓kSetO_N7, ↓kSetO_N8, ↓kSetO_N9, ↓kSetO_N10, ↓kSetO_N11, ↓kSetO_N12, ↓kSetO_N13, ↓kSetO_N14, ↓kSetO_N15, ↓kSetO_N16, ↓kSetO_N17, ↓kSetO_N18, ↓kSetO_N19, ↓kSetO_N20, ↓kSetO_N21, ↓kSetO_N22, ↓kSetO_N23, ↓pgNameN0, ↓pgNameN1, ↓pgNameN2, ↓pgNameN3, ↓pgNameN4, ↓pgNameN5, ↓pgNameN6, ↓pgNameN7, ↓pgNameN8, ↓pgNameN9, ↓pgNameN10, ↓pgNameN11, ↓pgNameN12, ↓pgNameN13, ↓pgNameN14, ↓pgNameN15, ↓pgNameN16, ↓pgNameN17, ↓pgNameN18, ↓pgNameN19, ↓pgNameN20, ↓pgNameN21, ↓pgNameN22, ↓pgNameN23, ↓ixS0, ↓ixS1, ↓ixS2, ↓ixS3, ↓ixS4, ↓ixS5, ↓ixS6, ↓ixS7, ↓ixS8, ↓ixS9, ↓ixS10, ↓ixS11, ↓ixS12, ↓ixS13, ↓ixS14, ↓ixS15, ↓ixS16, ↓ixS17, ↓ixS18, ↓ixS19, ↓ixS20, ↓ixS21, ↓ixS22, ↓ixS23, ↓lenS0, ↓lenS1, ↓lenS2, ↓lenS3, ↓lenS4, ↓lenS5, ↓lenS6, ↓lenS7, ↓lenS8, ↓lenS9, ↓lenS10, ↓lenS11, ↓lenS12, ↓lenS13, ↓lenS14, ↓lenS15, ↓lenS16, ↓lenS17, ↓lenS18, ↓lenS19, ↓lenS20, ↓lenS21, ↓lenS22, ↓lenS23, ↓setS0, ↓setS1, ↓setS2, ↓setS3, ↓setS4, ↓setS5, ↓setS6, ↓setS7, ↓setS8, ↓setS9, ↓setS10, ↓setS11, ↓setS12, ↓setS13, ↓setS14, ↓setS15, ↓setS16, ↓setS17, ↓setS18, ↓setS19, ↓setS20, ↓setS21, ↓setS22, ↓setS23, ↓conS0, ↓conS1, ↓conS2, ↓conS3, ↓conS4, ↓conS5, ↓conS6, ↓conS7, ↓conS8, ↓conS9, ↓conS10, ↓conS11, ↓conS12, ↓conS13, ↓conS14, ↓conS15, ↓conS16, ↓conS17, ↓conS18, ↓conS19, ↓conS20, ↓conS21, ↓conS22, ↓conS23, ↓putS0, ↓putS1, ↓putS2, ↓putS3, ↓putS4, ↓putS5, ↓putS6, ↓putS7, ↓putS8, ↓putS9, ↓putS10, ↓putS11, ↓putS12, ↓putS13, ↓putS14, ↓putS15, ↓putS16, ↓putS17, ↓putS18, ↓putS19, ↓putS20, ↓putS21, ↓putS22, ↓putS23])
def topS (i : Nat) : Stmt := PySem.Challenge.pw_keptpace_k20_loops_changed_in_place.main.body.getD i (.Pass ⟨0, 0, 0, 0⟩)
section
variable {P : Program} {w : World} {K : PySem.W.Frag} {mg : Str → Option Value} {base : Heap}
abbrev s_is_number : Stmt := topS 13
abbrev N_is_number : List Str := ["value", "least", "most"]
theorem sc_is_number : FnScope N_is_number ["value", "least", "most"] (defScope s_is_number) := ⟨rfl, rfl, rfl, by decide +kernel, rfl, by decide +kernel, by decide +kernel⟩
theorem ok_is_number  {k : Nat}  (T : TopD K mg "is_number" ["value", "least", "most"] s_is_number) (m_isinstance : mg "isinstance" = none) (m_bool : mg "bool" = none) (m_int : mg "int" = none)  :
    CallF P w K mg base "is_number" 3 (k + 1) (φ_is_number) := by
  refine call_of (N := N_is_number) (k := k) T sc_is_number fun f cdv A outer s H E hr => ⟨_, (pmss_one (pms_ret (pm_and (pm_callB cd_isi (by rfl) m_isinstance (by decide +kernel) (pma_cons (pm_var (pv 0)) (pma_cons (pm_ty (by rfl) m_int boot_int) pma_nil))) (pm_and (pm_not (pm_callB cd_isi (by rfl) m_isinstance (by decide +kernel) (pma_cons (pm_var (pv 0)) (pma_cons (pm_ty (by rfl) m_bool boot_bool) pma_nil)))) (pm_one (pm_chain od_le od_le (pm_var (pv 1)) (pm_var (pv 0)) (pm_var (pv 2)))))))), ?_⟩
  rintro ds Wo Q E' - ⟨v, a, b, rfl, hv, q⟩
  cases v <;> (try simp only [D.dat, Bool.false_eq_true] at hv)
  all_goals (walk_at "pls")
  all_goals first | exact q | skip
  rename_i i
  unfold isNum at q
  by_cases h : a ≤ i
  · simpa [h] using q
  · simpa [h] using q
abbrev s_is_counted : Stmt := topS 14
abbrev N_is_counted : List Str := ["value", "words"]
theorem sc_is_counted : FnScope N_is_counted ["value", "words"] (defScope s_is_counted) := ⟨rfl, rfl, rfl, by decide +kernel, rfl, by decide +kernel, by decide +kernel⟩
theorem ok_is_counted  {k : Nat}  (T : TopD K mg "is_counted" ["value", "words"] s_is_counted) (g_MOST_TIME : GI mg "MOST_TIME" 8) (g_LEAST_NUMBERS : GT K w mg "LEAST_NUMBERS" tab_LEAST_NUMBERS) (c_is_number : CallF P w K mg base "is_number" 3 k (φ_is_number)) (m_len : mg "len" = none)  :
    CallF P w K mg base "is_counted" 2 (k + 1) (φ_is_counted) := by
  refine call_of (N := N_is_counted) (k := k) T sc_is_counted fun f cdv A outer s H E hr => ⟨_, (pmss_cons (pms_if (pmt_w (pmw_or (pmt_cmp (od_ne (Room.hu64 hr)) (pm_lenK (by rfl) m_len (pk_var (pv 0))) pm_int (nomark _)) (pmw_or1 (pmt_cmp (od_notIn (Room.hu65 hr)) (pm_ixK (Room.hu1 hr) (pk_var (pv 0)) pm_int (fun _ _ => rfl)) (pm_var (pv 1)) (by rfl))))) (pmss_one (pms_ret pm_bl)) pmss_nil)
      (pmss_one (pms_ret (pm_callF c_is_number hr (by rfl) (pma_cons (pm_ixK (Room.hu1 hr) (pk_var (pv 0)) pm_int (fun _ _ => rfl)) (pma_cons (pm_tabG g_LEAST_NUMBERS (by rfl) (pm_ixK (Room.hu1 hr) (pk_var (pv 0)) pm_int (fun _ _ => rfl)) (fun _ _ => rfl)) (pma_cons (pm_gi g_MOST_TIME (by rfl)) pma_nil))))))), ?_⟩
  rintro ds Wo Q E' - ⟨x, r, ws, rfl, g1, g2, hw, q⟩
  have gx := good_tup g1 _ (List.mem_cons_self ..)
  walk_at "pls"
  have e2 : (((r.length + 1 : Nat) : Int) == 2) = decide (r.length = 1) := by
    rw [Bool.eq_iff_iff]; simp; omega
  simp only [e2]
  by_cases h1 : r.length = 1
  · match r, h1 with
    | [v], _ =>
      simp only [List.length_singleton, decide_true, Bool.not_true, Bool.false_eq_true, if_false, at0, at1, Option.some.injEq, exists_eq_left', gx, g2, true_and, any_words]
      by_cases h2 : ws.contains x = true
      · have hl := hw x (by simpa using h2)
        obtain ⟨n, hn⟩ := Option.isSome_iff_exists.mp hl
        have gv := good_tup g1 v (by simp)
        have hx : x ∈ ws := by simpa using h2
        simp only [h2, Bool.not_true, Bool.false_eq_true, if_false]
        refine ⟨x, _, rfl, tab_least hn, v, n, 8, rfl, good_dat gv, ?_⟩
        unfold isCounted at q
        simpa [hx, hn] using q
      · have hx : ¬ x ∈ ws := by simpa using h2
        unfold isCounted at q
        simpa [hx] using q
  · unfold isCounted at q
    split at q
    · exact absurd rfl h1
    · simpa [h1] using q
abbrev s_is_worded : Stmt := topS 15
abbrev N_is_worded : List Str := ["value"]
theorem sc_is_worded : FnScope N_is_worded ["value"] (defScope s_is_worded) := ⟨rfl, rfl, rfl, by decide +kernel, rfl, by decide +kernel, by decide +kernel⟩
theorem ok_is_worded  {k : Nat}  (T : TopD K mg "is_worded" ["value"] s_is_worded) (m_isinstance : mg "isinstance" = none) (m_str : mg "str" = none) (m_tuple : mg "tuple" = none)  :
    CallF P w K mg base "is_worded" 1 (k + 1) (φ_is_worded) := by
  refine call_of (N := N_is_worded) (k := k) T sc_is_worded fun f cdv A outer s H E hr => ⟨_, (pmss_one (pms_ret (pm_and (pm_callB cd_isi (by rfl) m_isinstance (by decide +kernel) (pma_cons (pm_var (pv 0)) (pma_cons (pm_ty (by rfl) m_tuple boot_tuple) pma_nil))) (pm_and (pm_cmp (od_ne (Room.hu64 hr)) (pm_var (pv 0)) (pm_tup pma_nil) (nomark _)) (pm_one (pm_callB cd_isi (by rfl) m_isinstance (by decide +kernel) (pma_cons (pm_ixK (Room.hu1 hr) (pk_var (pv 0)) pm_int (fun _ _ => rfl)) (pma_cons (pm_ty (by rfl) m_str boot_str) pma_nil)))))))), ?_⟩
  rintro ds Wo Q E' - ⟨v, rfl, hv, q⟩
  cases v with
  | tup xs =>
    cases xs with
    | nil =>
      walk_at "pls"
      exact q
    | cons x r =>
      have gx := good_tup hv x (List.mem_cons_self ..)
      walk_at "pls"
      simp only [hv, good_dat gx, true_and]
      cases x <;> exact q
  | dct _ _ => simp [D.good, D.plain] at hv
  | adr _ => simp [D.good, D.plain] at hv
  | ty _ => simp [D.good, D.plain] at hv
  | _ =>
    walk_at "pls"
    exact q
abbrev s_is_test : Stmt := topS 16
abbrev N_is_test : List Str := ["value"]
theorem sc_is_test : FnScope N_is_test ["value"] (defScope s_is_test) := ⟨rfl, rfl, rfl, by decide +kernel, rfl, by decide +kernel, by decide +kernel⟩
theorem ok_is_test  {k : Nat}  (T : TopD K mg "is_test" ["value"] s_is_test) (c_is_counted : CallF P w K mg base "is_counted" 2 k (φ_is_counted)) (c_is_worded : CallF P w K mg base "is_worded" 1 k (φ_is_worded))  :
    CallF P w K mg base "is_test" 1 (k + 1) (φ_is_test) := by
  refine call_of (N := N_is_test) (k := k) T sc_is_test fun f cdv A outer s H E hr => ⟨_, (pmss_cons (pms_if (pmt_not (pmt_val (pm_callF c_is_worded hr (by rfl) (pma_cons (pm_var (pv 0)) pma_nil)))) (pmss_one (pms_ret pm_bl)) pmss_nil)
      (pmss_one (pms_ret (pm_or (pm_cmp (od_in (Room.hu65 hr)) (pm_var (pv 0)) (pm_tup (pma_cons (pm_tup (pma_cons pm_str pma_nil)) (pma_cons (pm_tup (pma_cons pm_str pma_nil)) pma_nil))) (by rfl)) (pm_one (pm_callF c_is_counted hr (by rfl) (pma_cons (pm_var (pv 0)) (pma_cons (pm_tup (pma_cons pm_str pma_nil)) pma_nil)))))))), ?_⟩
  rintro ds Wo Q E' - ⟨v, rfl, hv, q⟩
  have hq : ∀ b, isTest v = b → Q (.bl b) Wo := fun b h => h ▸ q
  walk_at "pls"
  refine ⟨v, rfl, hv, _, rfl, ?_⟩
  cases hw : isWorded v with
  | false => exact hq false (isTest_worded hw)
  | true =>
    have g2 : D.good (.tup [.tup [.str "due"], .tup [.str "flag"]]) = true := by decide +kernel
    simp only [hv, g2, Bool.not_true, Bool.false_eq_true, if_false, true_and]
    unfold isWorded at hw
    split at hw
    · rename_i x r
      simp only [eqD_tup, eqDs_cons, eqD_str, eqDs_nil_l, Bool.or_false]
      refine ite2 (fun c => ?_) (fun c => ?_)
      · refine hq true ?_
        cases r with
        | nil =>
          simp only [List.isEmpty_nil, Bool.and_true, Bool.or_eq_true, beq_iff_eq] at c
          rcases c with rfl | rfl <;> rfl
        | cons n r => simp at c
      · refine ⟨x, r, ["late"], rfl, hv, (by decide +kernel), (fun y hy => ?_), hq _ ?_⟩
        · have e : y = "late" := by simpa using hy
          subst e; rfl
        · cases r with
          | nil =>
            simp only [List.isEmpty_nil, Bool.and_true, Bool.or_eq_true, beq_iff_eq, not_or] at c
            simp [isTest, isCounted, Ne.symm c.1, Ne.symm c.2]
          | cons n r =>
            cases r with
            | nil =>
              by_cases hx : x = "late"
              · subst hx; simp [isTest, isCounted, leastOf]
              · simp [isTest, isCounted, hx]
            | cons m r => simp [isTest, isCounted]
    · cases hw
abbrev s_is_statement : Stmt := topS 17
abbrev N_is_statement : List Str := ["value", "deep", "body"]
theorem sc_is_statement : FnScope N_is_statement ["value", "deep"] (defScope s_is_statement) := ⟨rfl, rfl, rfl, by decide +kernel, rfl, by decide +kernel, by decide +kernel⟩
theorem ok_is_statement {d : Nat} {k : Nat}  (T : TopD K mg "is_statement" ["value", "deep"] s_is_statement) (c_is_counted : CallF P w K mg base "is_counted" 2 k (φ_is_counted)) (m_all : mg "all" = none) (c_is_body : CallF P w K mg base "is_body" 2 k (φ_is_body' d)) (c_is_test : CallF P w K mg base "is_test" 1 k (φ_is_test)) (m_len : mg "len" = none) (c_is_worded : CallF P w K mg base "is_worded" 1 k (φ_is_worded))  :
    CallF P w K mg base "is_statement" 2 (k + 1) (φ_is_statement d) := by
  refine call_of (N := N_is_statement) (k := k) T sc_is_statement fun f cdv A outer s H E hr => ⟨_, (pmss_cons (pms_if (pmt_w (pmw_or (pmt_not (pmt_val (pm_callF c_is_worded hr (by rfl) (pma_cons (pm_var (pv 0)) pma_nil)))) (pmw_or1 (pmt_cmp od_lt (pm_var (pv 1)) pm_int (nomark _))))) (pmss_one (pms_ret pm_bl)) pmss_nil)
      (pmss_cons (pms_if (pmt_cmp (od_eq (Room.hu64 hr)) (pm_ixK (Room.hu1 hr) (pk_var (pv 0)) pm_int (fun _ _ => rfl)) pm_str (nomark _)) (pmss_one (pms_ret (pm_and (pm_cmp (od_eq (Room.hu64 hr)) (pm_lenK (by rfl) m_len (pk_var (pv 0))) pm_int (nomark _)) (pm_and (pm_callF c_is_test hr (by rfl) (pma_cons (pm_ixK (Room.hu1 hr) (pk_var (pv 0)) pm_int (fun _ _ => rfl)) pma_nil)) (pm_one (pm_callB (cd_all rfl) (by rfl) m_all (by decide +kernel) (pma_cons (pm_lc (own := [("body", 2)]) rfl sc_is_statement.nd (pmi_seq (pm_slice sld (pm_var (pv 0)) (.inr ⟨_, _, rfl, rfl, pm_int⟩) (.inl ⟨rfl, rfl⟩))) (blkOk_by (own := [("body", 2)]) (N := N_is_statement) (sc := defScope s_is_statement) (by decide +kernel)) (fun _ _ _ _ _ => (pmg_of (vs := [2]) (pg_name (i := 2) sc_is_statement.nd rfl (.inl rfl)))) (fun _ _ _ _ _ => pmts_nil) (fun _ _ _ _ _ => (pm_callF c_is_body hr (by rfl) (pma_cons (pm_var (pv 2)) (pma_cons (pm_op od_sub (pm_var (pv 1)) pm_int) pma_nil))))) pma_nil))))))) pmss_nil)
      (pmss_cons (pms_if (pmt_cmp (od_in (Room.hu65 hr)) (pm_var (pv 0)) (pm_tup (pma_cons (pm_tup (pma_cons pm_str pma_nil)) (pma_cons (pm_tup (pma_cons pm_str pma_nil)) (pma_cons (pm_tup (pma_cons pm_str pma_nil)) pma_nil)))) (by rfl)) (pmss_one (pms_ret pm_bl)) pmss_nil)
      (pmss_one (pms_ret (pm_callF c_is_counted hr (by rfl) (pma_cons (pm_var (pv 0)) (pma_cons (pm_tup (pma_cons pm_str (pma_cons pm_str (pma_cons pm_str (pma_cons pm_str (pma_cons pm_str pma_nil)))))) pma_nil)))))))), ?_⟩
  rintro ds Wo Q E' - ⟨v, rfl, hv, q⟩
  have hq : ∀ b, isStm d v = b → Q (.bl b) Wo := fun b h => h ▸ q
  walk_at "pls"
  refine ⟨v, rfl, hv, _, rfl, ?_⟩
  cases hw : isWorded v with
  | false => exact hq false (isStm_worded hw)
  | true =>
    simp only [Bool.not_true, Bool.false_eq_true, if_false, decide_eq_true_eq]
    cases d with
    | zero => simpa using hq false rfl
    | succ d =>
      have e1 : ¬ ((d + 1 : Nat) : Int) < 1 := by omega
      rw [if_neg e1]
      unfold isWorded at hw
      split at hw
      · rename_i x r
        have g2 : D.good (.tup [.tup [.str "until"], .tup [.str "up"], .tup [.str "down"]]) = true := by decide +kernel
        have gm := good_tup hv
        try simp only [eqD_x_str, beq_iff_eq, ↓pC, ↓pOp, ↓pUn, ↓pSl, ↓pPart, ↓pNil, ↓pCons, ↓pTup, ↓pLst, ↓pCallB, ↓pTest, ↓pNot, ↓pAnd, ↓pOr, ↓pAndV, ↓pOrV, ↓pNotV, ↓pIf, ↓pNext, ↓pSeq, ↓pBreak, ↓pCont, ↓pDrop, ↓pRet, ↓pRetN, ↓pIfS, ↓pgNil, ↓pgCons, ↓pgTup, ↓pAsg, ↓pRaise, ↓pCall, ↓pIter, ↓pFor, ↓pLc, ↓pYes, ↓pkOf, ↓pIxK, ↓pTabG, ↓pLenK, ↓pChain, ↓pStore, ↓pAppend, ↓pPop, ↓poLst, ↓poDct, ↓pNewW, ↓pRng1, ↓pRng2, ↓pTry, ↓pTryAs, ↓oEq, ↓oNe, ↓oLen, ↓oSum, ↓oAll, ↓oAny, ↓oIsi, start0, List.map_cons, List.map_nil, List.length_cons, List.length_nil, List.cons_append, List.nil_append, List.getElem?_cons_zero, List.getElem?_cons_succ, List.set_cons_zero, List.set_cons_succ, List.replicate, D.bl.injEq, D.int.injEq, D.str.injEq, D.tup.injEq, D.lst.injEq, exists_eq_left', exists_eq_left, Option.some.injEq, Bool.false_eq_true, if_true, if_false, true_and, and_true, false_and, and_false, isi_int, isi_bool, isi_str, isi_tuple, isi_list, isiT_int, isiT_bool, isiT_str, isiT_tuple, isiT_list, Bool.not_true, Bool.not_false, dat_non, dat_bl, dat_int, dat_str, dat_tup, dat_lst, isInt_non, isInt_bl, isInt_int, isInt_str, isInt_tup, isInt_lst, isBool_non, isBool_bl, isBool_int, isBool_str, isBool_tup, isBool_lst, isStr_non, isStr_bl, isStr_int, isStr_str, isStr_tup, isStr_lst, isTup_non, isTup_bl, isTup_int, isTup_str, isTup_tup, isTup_lst, isLst_non, isLst_bl, isLst_int, isLst_str, isLst_tup, isLst_lst, Nat.reduceAdd, Nat.zero_add, sz_0, sz_1, sz_2, sz_3, sz_4, sz_5, sz_6, sz_7, sz_8, sz_9, sz_10, sz_11, sz_12, List.any_cons, List.any_nil, eqD_tup, eqD_str, eqD_int, eqDs_cons, eqDs_nil, eqDs_cn, eqDs_nc, Bool.or_false, Bool.and_true, at0, at1, at2, at3, at4, good_int, good_bl, good_nil, good_nilL, good_non, eqDs_nil_r, eqDs_nil_l, List.isEmpty_nil, List.isEmpty_cons, Bool.and_false, Bool.or_true, Bool.false_or, Bool.true_or, Bool.false_and, Bool.true_and, encB, wipS_mk, List.foldr_cons, List.foldr_nil, con_updW, ↓ixC_ownD, ↓oIx_tup, ↓oIx_lst, ↓oIx_str, ↓lenC_ownL, ↓lenC_ownD, ↓setC_ownD, putC_adr, Own_lst_inj, Con_own_inj, updW_upd, Nat.reduceSub, Nat.sub_self, ↓itD_lst, ↓itD_tup, ↓oInt_i, ↓oCmp_i, ↓oAdd_i, ↓oAdd_s, ↓oAdd_t, ↓oAdd_l, ↓oNeg_i, ↓o1I_i, ↓o2I_i, ↓oSl_t, ↓oSl_l, ↓oList_t, ↓oList_l, ↓oTuple_t, ↓oTuple_l, ↓oIn_t, ↓oIn_l, ↓oIsN_n, ↓ixC_ownLi, ↓setC_ownLi, ixN20, ixN21, ex_int1, ex_int2, ↓pSet_eq, ↓ixK_tup, ↓ixK_lst, ↓ixK_str, ↓ixK_dct, ↓lenK_tup, ↓lenK_lst, ↓lenK_str, ↓pSetO_eq, ↓pPar_eq, ↓kPar_mk, ↓pGet2, ↓pFrzO_eq, ↓kFrz_lst, ↓kFrz_dct, ↓pPairs_nil, ↓pPairs_cons, ↓poDisp, ↓getC_val, isDc_val, ↓poCat, ↓catD_l, ↓pVarV0, ↓pVarV1, ↓pVarV2, ↓pVarL0, ↓pVarL1, ↓pVarL2, ↓pVarD0, ↓pVarD1, ↓pVarD2, ↓pkVarV0, ↓pkVarV1, ↓pkVarV2, ↓pkVarO0, ↓pkVarO1, ↓pkVarO2, ↓kSetN0, ↓kSetN1, ↓kSetN2, ↓kSetO_N0, ↓kSetO_N1, ↓kSetO_N2, ↓pgNameN0, ↓pgNameN1, ↓pgNameN2, ↓ixS0, ↓ixS1, ↓ixS2, ↓lenS0, ↓lenS1, ↓lenS2, ↓setS0, ↓setS1, ↓setS2, ↓conS0, ↓conS1, ↓conS2, ↓putS0, ↓putS1, ↓putS2]
        refine ⟨gm _ (List.mem_cons_self ..), by decide +kernel, ?_⟩
        refine ite2 (fun c => ?_) (fun c => ?_)
        · subst c
          by_cases h3 : r.length = 3
          · match r, h3 with
            | [t, a, b], _ =>
              simp only [List.length_cons, List.length_nil, Nat.zero_add, Nat.reduceAdd, if_true, at1, Option.some.injEq, exists_eq_left']
              refine ⟨t, rfl, gm t (by simp), _, rfl, ?_⟩
              refine ite2 (fun c2 => ?_) (fun c2 => ?_)
              · rw [show (2 : Int) = ((2 : Nat) : Int) from rfl, cut_from _ _ (by simp)]
                show lcW _ _ _ _ _ [a, b] [] _
                have e3 : ((d + 1 : Nat) : Int) - 1 = (d : Int) := by omega
                refine lcW_map (f := fun v => .bl (isBod d v)) _ _ (fun y hy Q' hQ' => ?_) (by simp [sizeLine]) ?_
                · walk_at "pls"
                  refine ⟨y, by rw [e3], gm y (List.mem_cons_of_mem _ (List.mem_cons_of_mem _ hy)), hQ' _ ?_⟩
                  rfl
                · refine ⟨_, [isBod d a, isBod d b], rfl, rfl, hq _ ?_⟩
                  simp [isStm, c2, isBod]
              · exact hq false (by simp [isStm, c2])
          · refine ite2 (fun c3 => absurd c3 (by omega)) (fun _ => ?_)
            refine hq false ?_
            simp only [isStm, if_true]
            split
            · simp at h3
            · rfl
        · simp only [hv, g2, true_and, eqD_tup, eqDs_cons, eqD_str, eqDs_nil_l, Bool.or_false]
          refine ite2 (fun c2 => ?_) (fun c2 => ?_)
          · refine hq true ?_
            simp only [isStm, if_neg c]
            rw [if_pos]
            rw [← c2]
            cases r.isEmpty <;> simp [Bool.beq_comm, eq_comm]
          · refine ⟨x, r, ["wait", "rest", "move", "ahead", "set"], rfl, hv, (by decide +kernel), (fun y hy => ?_), hq _ ?_⟩
            · simp at hy
              rcases hy with rfl | rfl | rfl | rfl | rfl <;> rfl
            · simp only [isStm, if_neg c]
              rw [if_neg]
              intro c3
              apply c2
              rw [← c3]
              cases r.isEmpty <;> simp [Bool.beq_comm, eq_comm]
      · cases hw
abbrev s_is_body : Stmt := topS 18
abbrev N_is_body : List Str := ["value", "deep", "one"]
theorem sc_is_body : FnScope N_is_body ["value", "deep"] (defScope s_is_body) := ⟨rfl, rfl, rfl, by decide +kernel, rfl, by decide +kernel, by decide +kernel⟩
theorem ok_is_body {d : Nat} {k : Nat}  (T : TopD K mg "is_body" ["value", "deep"] s_is_body) (m_all : mg "all" = none) (c_is_statement : CallF P w K mg base "is_statement" 2 k (φ_is_statement d)) (m_len : mg "len" = none) (m_isinstance : mg "isinstance" = none) (m_tuple : mg "tuple" = none)  :
    CallF P w K mg base "is_body" 2 (k + 1) (φ_is_body d) := by
  refine call_of (N := N_is_body) (k := k) T sc_is_body fun f cdv A outer s H E hr => ⟨_, (pmss_one (pms_ret (pm_and (pm_callB cd_isi (by rfl) m_isinstance (by decide +kernel) (pma_cons (pm_var (pv 0)) (pma_cons (pm_ty (by rfl) m_tuple boot_tuple) pma_nil))) (pm_and (pm_cmp od_le (pm_lenK (by rfl) m_len (pk_var (pv 0))) pm_int (nomark _)) (pm_one (pm_callB (cd_all rfl) (by rfl) m_all (by decide +kernel) (pma_cons (pm_lc (own := [("one", 2)]) rfl sc_is_body.nd (pmi_seq (pm_var (pv 0))) (blkOk_by (own := [("one", 2)]) (N := N_is_body) (sc := defScope s_is_body) (by decide +kernel)) (fun _ _ _ _ _ => (pmg_of (vs := [2]) (pg_name (i := 2) sc_is_body.nd rfl (.inl rfl)))) (fun _ _ _ _ _ => pmts_nil) (fun _ _ _ _ _ => (pm_callF c_is_statement hr (by rfl) (pma_cons (pm_var (pv 2)) (pma_cons (pm_var (pv 1)) pma_nil))))) pma_nil))))))), ?_⟩
  rintro ds Wo Q E' - ⟨v, rfl, hv, q⟩
  have hq : ∀ b, isBod d v = b → Q (.bl b) Wo := fun b h => h ▸ q
  walk_at "pls"
  cases v with
  | tup xs =>
    walk_at "pls"
    refine ite2 (fun c => ?_) (fun c => ?_)
    · have c : xs.length ≤ 8 := by have := of_decide_eq_true c; omega
      refine lcW_map (f := fun v => .bl (isStm d v)) _ _ (fun y hy Q' hQ' => ?_) (by simp [sizeLine]; omega) ?_
      · walk_at "pls"
        refine ⟨y, rfl, good_tup hv y hy, hQ' _ ?_⟩
        rfl
      · refine ⟨_, xs.map (isStm d), rfl, ?_, hq _ ?_⟩
        · rw [← bls_map (xs.map (isStm d)), List.nil_append, List.map_map]; rfl
        · simp [isBod, bodW, c]
    · have c : ¬ xs.length ≤ 8 := by simp at c; omega
      exact hq false (by simp [isBod, bodW, c])
  | dct _ _ => simp [D.good, D.plain] at hv
  | adr _ => simp [D.good, D.plain] at hv
  | ty _ => simp [D.good, D.plain] at hv
  | _ =>
    walk_at "pls"
    exact q
abbrev s_bodies_of : Stmt := topS 19
abbrev N_bodies_of : List Str := ["statement"]
theorem sc_bodies_of : FnScope N_bodies_of ["statement"] (defScope s_bodies_of) := ⟨rfl, rfl, rfl, by decide +kernel, rfl, by decide +kernel, by decide +kernel⟩
theorem ok_bodies_of  {k : Nat}  (T : TopD K mg "bodies_of" ["statement"] s_bodies_of) (m_list : mg "list" = none)  :
    CallF P w K mg base "bodies_of" 1 (k + 1) (φ_bodies_of) := by
  refine call_of (N := N_bodies_of) (k := k) T sc_bodies_of fun f cdv A outer s H E hr => ⟨_, (pmss_one (pms_ret (pm_ifExp (pmt_cmp (od_eq (Room.hu64 hr)) (pm_ixK (Room.hu1 hr) (pk_var (pv 0)) pm_int (fun _ _ => rfl)) pm_str (nomark _)) (pm_callTy cd_list (by rfl) m_list boot_list (pma_cons (pm_slice sld (pm_var (pv 0)) (.inr ⟨_, _, rfl, rfl, pm_int⟩) (.inl ⟨rfl, rfl⟩)) pma_nil)) (pm_lst pma_nil)))), ?_⟩
  rintro ds Wo Q E' - ⟨s, rfl, q⟩
  walk_at "pls"
  have g1 : D.good (.str "if") = true := by decide +kernel
  cases s with
  | ite t a b =>
    simp only [encS]
    walk_at "pls"
    simp only [g1]
    walk_at "pls"
    rw [show (2 : Int) = ((2 : Nat) : Int) from rfl, cut_from _ _ (by simp)]
    exact q
  | _ =>
    simp only [encS]
    walk_at "pls"
    refine ⟨by decide +kernel, g1, ?_⟩
    refine ite2 (fun c => absurd c (by decide +kernel)) (fun _ => ?_)
    exact q
abbrev s_listed : Stmt := topS 20
abbrev N_listed : List Str := ["body", "found", "statement", "inner"]
theorem sc_listed : FnScope N_listed ["body"] (defScope s_listed) := ⟨rfl, rfl, rfl, by decide +kernel, rfl, by decide +kernel, by decide +kernel⟩
theorem ok_listed {d : Nat} {k : Nat}  (T : TopD K mg "listed" ["body"] s_listed) (c_bodies_of : CallF P w K mg base "bodies_of" 1 k (φ_bodies_of)) (c_listed : CallF P w K mg base "listed" 1 k (lowφ 1 φ_listed d)) (hd : d ≤ 4) :
    CallF P w K mg base "listed" 1 (k + 1) (φ_listed d) := by
  refine call_of (N := N_listed) (k := k) T sc_listed fun f cdv A outer s H E hr => ⟨_, (pmss_cons (pms_set (i := 1) (fun W t => ps_set (i := 1) sc_listed.nd rfl (.inl rfl) ((pm_lst pma_nil) W t)))
      (pmss_cons (pms_for (passes_of rfl) rfl (pmi_seq (pm_var (pv 0))) (pmg_of (vs := [2]) (pg_name (i := 2) sc_listed.nd rfl (.inl rfl)))
      (pmss_cons (pms_set (i := 1) (fun W t => ps_set (i := 1) sc_listed.nd rfl (.inl rfl) ((pm_op od_add (pm_var (pv 1)) (pm_lst (pma_cons (pm_var (pv 2)) pma_nil))) W t)))
      (pmss_one (pms_for (passes_of rfl) rfl (pmi_seq (pm_callF c_bodies_of hr (by rfl) (pma_cons (pm_var (pv 2)) pma_nil))) (pmg_of (vs := [3]) (pg_name (i := 3) sc_listed.nd rfl (.inl rfl)))
      (pmss_one (pms_set (i := 1) (fun W t => ps_set (i := 1) sc_listed.nd rfl (.inl rfl) ((pm_op od_add (pm_var (pv 1)) (pm_callF c_listed hr (by rfl) (pma_cons (pm_var (pv 3)) pma_nil))) W t))))))))
      (pmss_one (pms_ret (pm_var (pv 1)))))), ?_⟩
  rintro ds Wo Q E' - ⟨b, rfl, hb, q⟩
  have hbn : (listedB b).length ≤ 34952 := Nat.le_trans (okB_bnd hb) (Nat.le_trans (bnd_mono hd) (by decide))
  walk_at "pls"
  rw [encSs_map]
  refine forW_list encS (fun r S => ∃ b0 s2 s3, b = b0 ++ r ∧ S = ⟨[.val (.tup (encSs b)), .val (.lst ((listedB b0).map encS)), s2, s3], Wo⟩) ?_ ?_ b _ ⟨[], .emp, .emp, rfl, by rw [encSs_map]; rfl⟩
  · rintro S ⟨b0, s2, s3, e, rfl⟩
    walk_at "pls"
    rw [List.append_nil] at e
    exact e ▸ q
  · rintro s r S K' ⟨b0, s2, s3, e, rfl⟩ hK
    have hs : okS d s = true := (okB_iff.mp hb).2 s (by rw [e]; simp)
    have el : listedB b = listedB b0 ++ (listedS s ++ listedB r) := by rw [e, listedB_append]; rfl
    have eL := congrArg List.length el
    simp only [List.length_append] at eL
    have hp := listedS_pos s
    have hp := listedS_pos s
    walk_at "pls"
    refine ⟨by show _ ≤ 2 ^ 24; rw [List.length_map]; omega, s, rfl, ?_⟩
    have done : ∀ s3, K' ⟨[.val (.tup (encSs b)), .val (.lst ((listedB (b0 ++ [s])).map encS)), .val (encS s), s3], Wo⟩ := fun s3 => hK _ ⟨b0 ++ [s], _, _, by rw [e]; simp, rfl⟩
    have e1 : listedB (b0 ++ [s]) = listedB b0 ++ listedS s := by rw [listedB_append, listedB, listedB, List.append_nil]
    rw [e1] at done
    cases s with
    | ite t x y =>
      cases d with
      | zero => simp [okS] at hs
      | succ d =>
        obtain ⟨_, hx, hy⟩ := okS_ite.mp hs
        simp only [listedS, List.length_cons, List.length_append] at eL
        try simp only [bodD, forW, Nat.add_sub_cancel, ↓pC, ↓pOp, ↓pUn, ↓pSl, ↓pPart, ↓pNil, ↓pCons, ↓pTup, ↓pLst, ↓pCallB, ↓pTest, ↓pNot, ↓pAnd, ↓pOr, ↓pAndV, ↓pOrV, ↓pNotV, ↓pIf, ↓pNext, ↓pSeq, ↓pBreak, ↓pCont, ↓pDrop, ↓pRet, ↓pRetN, ↓pIfS, ↓pgNil, ↓pgCons, ↓pgTup, ↓pAsg, ↓pRaise, ↓pCall, ↓pIter, ↓pFor, ↓pLc, ↓pYes, ↓pkOf, ↓pIxK, ↓pTabG, ↓pLenK, ↓pChain, ↓pStore, ↓pAppend, ↓pPop, ↓poLst, ↓poDct, ↓pNewW, ↓pRng1, ↓pRng2, ↓pTry, ↓pTryAs, ↓oEq, ↓oNe, ↓oLen, ↓oSum, ↓oAll, ↓oAny, ↓oIsi, start0, List.map_cons, List.map_nil, List.length_cons, List.length_nil, List.cons_append, List.nil_append, List.getElem?_cons_zero, List.getElem?_cons_succ, List.set_cons_zero, List.set_cons_succ, List.replicate, D.bl.injEq, D.int.injEq, D.str.injEq, D.tup.injEq, D.lst.injEq, exists_eq_left', exists_eq_left, Option.some.injEq, Bool.false_eq_true, if_true, if_false, true_and, and_true, false_and, and_false, isi_int, isi_bool, isi_str, isi_tuple, isi_list, isiT_int, isiT_bool, isiT_str, isiT_tuple, isiT_list, Bool.not_true, Bool.not_false, dat_non, dat_bl, dat_int, dat_str, dat_tup, dat_lst, isInt_non, isInt_bl, isInt_int, isInt_str, isInt_tup, isInt_lst, isBool_non, isBool_bl, isBool_int, isBool_str, isBool_tup, isBool_lst, isStr_non, isStr_bl, isStr_int, isStr_str, isStr_tup, isStr_lst, isTup_non, isTup_bl, isTup_int, isTup_str, isTup_tup, isTup_lst, isLst_non, isLst_bl, isLst_int, isLst_str, isLst_tup, isLst_lst, Nat.reduceAdd, Nat.zero_add, sz_0, sz_1, sz_2, sz_3, sz_4, sz_5, sz_6, sz_7, sz_8, sz_9, sz_10, sz_11, sz_12, List.any_cons, List.any_nil, eqD_tup, eqD_str, eqD_int, eqDs_cons, eqDs_nil, eqDs_cn, eqDs_nc, Bool.or_false, Bool.and_true, at0, at1, at2, at3, at4, good_int, good_bl, good_nil, good_nilL, good_non, eqDs_nil_r, eqDs_nil_l, List.isEmpty_nil, List.isEmpty_cons, Bool.and_false, Bool.or_true, Bool.false_or, Bool.true_or, Bool.false_and, Bool.true_and, encB, wipS_mk, List.foldr_cons, List.foldr_nil, con_updW, ↓ixC_ownD, ↓oIx_tup, ↓oIx_lst, ↓oIx_str, ↓lenC_ownL, ↓lenC_ownD, ↓setC_ownD, putC_adr, Own_lst_inj, Con_own_inj, updW_upd, Nat.reduceSub, Nat.sub_self, ↓itD_lst, ↓itD_tup, ↓oInt_i, ↓oCmp_i, ↓oAdd_i, ↓oAdd_s, ↓oAdd_t, ↓oAdd_l, ↓oNeg_i, ↓o1I_i, ↓o2I_i, ↓oSl_t, ↓oSl_l, ↓oList_t, ↓oList_l, ↓oTuple_t, ↓oTuple_l, ↓oIn_t, ↓oIn_l, ↓oIsN_n, ↓ixC_ownLi, ↓setC_ownLi, ixN20, ixN21, ex_int1, ex_int2, ↓pSet_eq, ↓ixK_tup, ↓ixK_lst, ↓ixK_str, ↓ixK_dct, ↓lenK_tup, ↓lenK_lst, ↓lenK_str, ↓pSetO_eq, ↓pPar_eq, ↓kPar_mk, ↓pGet2, ↓pFrzO_eq, ↓kFrz_lst, ↓kFrz_dct, ↓pPairs_nil, ↓pPairs_cons, ↓poDisp, ↓getC_val, isDc_val, ↓poCat, ↓catD_l, ↓pVarV0, ↓pVarV1, ↓pVarV2, ↓pVarV3, ↓pVarL0, ↓pVarL1, ↓pVarL2, ↓pVarL3, ↓pVarD0, ↓pVarD1, ↓pVarD2, ↓pVarD3, ↓pkVarV0, ↓pkVarV1, ↓pkVarV2, ↓pkVarV3, ↓pkVarO0, ↓pkVarO1, ↓pkVarO2, ↓pkVarO3, ↓kSetN0, ↓kSetN1, ↓kSetN2, ↓kSetN3, ↓kSetO_N0, ↓kSetO_N1, ↓kSetO_N2, ↓kSetO_N3, ↓pgNameN0, ↓pgNameN1, ↓pgNameN2, ↓pgNameN3, ↓ixS0, ↓ixS1, ↓ixS2, ↓ixS3, ↓lenS0, ↓lenS1, ↓lenS2, ↓lenS3, ↓setS0, ↓setS1, ↓setS2, ↓setS3, ↓conS0, ↓conS1, ↓conS2, ↓conS3, ↓putS0, ↓putS1, ↓putS2, ↓putS3]
        refine ⟨by omega, x, rfl, hx, ?_, by omega, y, rfl, hy, ?_, ?_⟩
        · show _ ≤ 2 ^ 24; simp only [List.length_append, List.length_map, List.length_singleton]; omega
        · show _ ≤ 2 ^ 24; simp only [List.length_append, List.length_map, List.length_singleton]; omega
        · have := done (.val (encB y))
          simp only [listedS, List.map_append, List.map_cons, List.append_assoc, List.cons_append] at this
          simpa only [List.append_assoc, List.cons_append, List.nil_append, encB] using this
    | _ =>
      try simp only [bodD, forW, ↓pC, ↓pOp, ↓pUn, ↓pSl, ↓pPart, ↓pNil, ↓pCons, ↓pTup, ↓pLst, ↓pCallB, ↓pTest, ↓pNot, ↓pAnd, ↓pOr, ↓pAndV, ↓pOrV, ↓pNotV, ↓pIf, ↓pNext, ↓pSeq, ↓pBreak, ↓pCont, ↓pDrop, ↓pRet, ↓pRetN, ↓pIfS, ↓pgNil, ↓pgCons, ↓pgTup, ↓pAsg, ↓pRaise, ↓pCall, ↓pIter, ↓pFor, ↓pLc, ↓pYes, ↓pkOf, ↓pIxK, ↓pTabG, ↓pLenK, ↓pChain, ↓pStore, ↓pAppend, ↓pPop, ↓poLst, ↓poDct, ↓pNewW, ↓pRng1, ↓pRng2, ↓pTry, ↓pTryAs, ↓oEq, ↓oNe, ↓oLen, ↓oSum, ↓oAll, ↓oAny, ↓oIsi, start0, List.map_cons, List.map_nil, List.length_cons, List.length_nil, List.cons_append, List.nil_append, List.getElem?_cons_zero, List.getElem?_cons_succ, List.set_cons_zero, List.set_cons_succ, List.replicate, D.bl.injEq, D.int.injEq, D.str.injEq, D.tup.injEq, D.lst.injEq, exists_eq_left', exists_eq_left, Option.some.injEq, Bool.false_eq_true, if_true, if_false, true_and, and_true, false_and, and_false, isi_int, isi_bool, isi_str, isi_tuple, isi_list, isiT_int, isiT_bool, isiT_str, isiT_tuple, isiT_list, Bool.not_true, Bool.not_false, dat_non, dat_bl, dat_int, dat_str, dat_tup, dat_lst, isInt_non, isInt_bl, isInt_int, isInt_str, isInt_tup, isInt_lst, isBool_non, isBool_bl, isBool_int, isBool_str, isBool_tup, isBool_lst, isStr_non, isStr_bl, isStr_int, isStr_str, isStr_tup, isStr_lst, isTup_non, isTup_bl, isTup_int, isTup_str, isTup_tup, isTup_lst, isLst_non, isLst_bl, isLst_int, isLst_str, isLst_tup, isLst_lst, Nat.reduceAdd, Nat.zero_add, sz_0, sz_1, sz_2, sz_3, sz_4, sz_5, sz_6, sz_7, sz_8, sz_9, sz_10, sz_11, sz_12, List.any_cons, List.any_nil, eqD_tup, eqD_str, eqD_int, eqDs_cons, eqDs_nil, eqDs_cn, eqDs_nc, Bool.or_false, Bool.and_true, at0, at1, at2, at3, at4, good_int, good_bl, good_nil, good_nilL, good_non, eqDs_nil_r, eqDs_nil_l, List.isEmpty_nil, List.isEmpty_cons, Bool.and_false, Bool.or_true, Bool.false_or, Bool.true_or, Bool.false_and, Bool.true_and, encB, wipS_mk, List.foldr_cons, List.foldr_nil, con_updW, ↓ixC_ownD, ↓oIx_tup, ↓oIx_lst, ↓oIx_str, ↓lenC_ownL, ↓lenC_ownD, ↓setC_ownD, putC_adr, Own_lst_inj, Con_own_inj, updW_upd, Nat.reduceSub, Nat.sub_self, ↓itD_lst, ↓itD_tup, ↓oInt_i, ↓oCmp_i, ↓oAdd_i, ↓oAdd_s, ↓oAdd_t, ↓oAdd_l, ↓oNeg_i, ↓o1I_i, ↓o2I_i, ↓oSl_t, ↓oSl_l, ↓oList_t, ↓oList_l, ↓oTuple_t, ↓oTuple_l, ↓oIn_t, ↓oIn_l, ↓oIsN_n, ↓ixC_ownLi, ↓setC_ownLi, ixN20, ixN21, ex_int1, ex_int2, ↓pSet_eq, ↓ixK_tup, ↓ixK_lst, ↓ixK_str, ↓ixK_dct, ↓lenK_tup, ↓lenK_lst, ↓lenK_str, ↓pSetO_eq, ↓pPar_eq, ↓kPar_mk, ↓pGet2, ↓pFrzO_eq, ↓kFrz_lst, ↓kFrz_dct, ↓pPairs_nil, ↓pPairs_cons, ↓poDisp, ↓getC_val, isDc_val, ↓poCat, ↓catD_l, ↓pVarV0, ↓pVarV1, ↓pVarV2, ↓pVarV3, ↓pVarL0, ↓pVarL1, ↓pVarL2, ↓pVarL3, ↓pVarD0, ↓pVarD1, ↓pVarD2, ↓pVarD3, ↓pkVarV0, ↓pkVarV1, ↓pkVarV2, ↓pkVarV3, ↓pkVarO0, ↓pkVarO1, ↓pkVarO2, ↓pkVarO3, ↓kSetN0, ↓kSetN1, ↓kSetN2, ↓kSetN3, ↓kSetO_N0, ↓kSetO_N1, ↓kSetO_N2, ↓kSetO_N3, ↓pgNameN0, ↓pgNameN1, ↓pgNameN2, ↓pgNameN3, ↓ixS0, ↓ixS1, ↓ixS2, ↓ixS3, ↓lenS0, ↓lenS1, ↓lenS2, ↓lenS3, ↓setS0, ↓setS1, ↓setS2, ↓setS3, ↓conS0, ↓conS1, ↓conS2, ↓conS3, ↓putS0, ↓putS1, ↓putS2, ↓putS3]
      have := done s3
      simpa only [listedS, List.map_append, List.map_cons, List.map_nil] using this
abbrev s_is_loop : Stmt := topS 21
abbrev N_is_loop : List Str := ["value", "part"]
theorem sc_is_loop : FnScope N_is_loop ["value"] (defScope s_is_loop) := ⟨rfl, rfl, rfl, by decide +kernel, rfl, by decide +kernel, by decide +kernel⟩
theorem ok_is_loop  {k : Nat}  (T : TopD K mg "is_loop" ["value"] s_is_loop) (m_len : mg "len" = none) (c_listed : CallF P w K mg base "listed" 1 k (φ_listed 3)) (g_MOST_STATEMENTS : GI mg "MOST_STATEMENTS" 12) (g_MOST_DEEP : GI mg "MOST_DEEP" 3) (c_is_body : CallF P w K mg base "is_body" 2 k (φ_is_body 3)) (m_all : mg "all" = none) (g_MOST_TIME : GI mg "MOST_TIME" 8) (c_is_number : CallF P w K mg base "is_number" 3 k (φ_is_number)) (m_isinstance : mg "isinstance" = none) (m_tuple : mg "tuple" = none)  :
    CallF P w K mg base "is_loop" 1 (k + 1) (φ_is_loop) := by
  refine call_of (N := N_is_loop) (k := k) T sc_is_loop fun f cdv A outer s H E hr => ⟨_, (pmss_cons (pms_if (pmt_w (pmw_or (pmt_not (pmt_val (pm_callB cd_isi (by rfl) m_isinstance (by decide +kernel) (pma_cons (pm_var (pv 0)) (pma_cons (pm_ty (by rfl) m_tuple boot_tuple) pma_nil))))) (pmw_or1 (pmt_cmp (od_ne (Room.hu64 hr)) (pm_lenK (by rfl) m_len (pk_var (pv 0))) pm_int (nomark _))))) (pmss_one (pms_ret pm_bl)) pmss_nil)
      (pmss_cons (pms_if (pmt_w (pmw_or (pmt_not (pmt_val (pm_callB (cd_all rfl) (by rfl) m_all (by decide +kernel) (pma_cons (pm_lc (own := [("part", 1)]) rfl sc_is_loop.nd (pmi_seq (pm_slice sld (pm_var (pv 0)) (.inl ⟨rfl, rfl⟩) (.inr ⟨_, _, rfl, rfl, pm_int⟩))) (blkOk_by (own := [("part", 1)]) (N := N_is_loop) (sc := defScope s_is_loop) (by decide +kernel)) (fun _ _ _ _ _ => (pmg_of (vs := [1]) (pg_name (i := 1) sc_is_loop.nd rfl (.inl rfl)))) (fun _ _ _ _ _ => pmts_nil) (fun _ _ _ _ _ => (pm_callF c_is_number hr (by rfl) (pma_cons (pm_var (pv 1)) (pma_cons pm_int (pma_cons (pm_gi g_MOST_TIME (by rfl)) pma_nil)))))) pma_nil)))) (pmw_or1 (pmt_cmp od_gt (pm_ixK (Room.hu1 hr) (pk_var (pv 0)) pm_int (fun _ _ => rfl)) (pm_ixK (Room.hu1 hr) (pk_var (pv 0)) pm_int (fun _ _ => rfl)) (nomark _))))) (pmss_one (pms_ret pm_bl)) pmss_nil)
      (pmss_one (pms_ret (pm_and (pm_callF c_is_body hr (by rfl) (pma_cons (pm_ixK (Room.hu1 hr) (pk_var (pv 0)) pm_int (fun _ _ => rfl)) (pma_cons (pm_gi g_MOST_DEEP (by rfl)) pma_nil))) (pm_one (pm_cmp od_le (pm_lenK (by rfl) m_len (pk_of (pm_callF c_listed hr (by rfl) (pma_cons (pm_ixK (Room.hu1 hr) (pk_var (pv 0)) pm_int (fun _ _ => rfl)) pma_nil)))) (pm_gi g_MOST_STATEMENTS (by rfl)) (nomark _)))))))), ?_⟩
  rintro ds Wo Q E' - ⟨v, rfl, hv, q⟩
  have hq : ∀ b, isLoop v = b → Q (.bl b) Wo := fun b h => h ▸ q
  walk_at "pls"
  cases v with
  | tup xs =>
    walk_at "pls"
    have gm := good_tup hv
    by_cases h4 : xs.length = 4
    · match xs, h4 with
      | [a, b, c, s], _ =>
        walk_at "pls"
        refine ite2 (fun z => absurd z (by decide +kernel)) (fun _ => ?_)
        rw [show (3 : Int) = ((3 : Nat) : Int) from rfl, cut_to _ _ (by simp)]
        refine lcW_map (f := fun v => .bl (isNum v 0 8)) _ _ (fun y hy Q' hQ' => ?_) (by show _ ≤ 2 ^ 24; simp) ?_
        · walk_at "pls"
          exact ⟨y, _, _, rfl, good_dat (gm y (List.mem_of_mem_take hy)), hQ' _ rfl⟩
        · walk_at "pls"
          refine ⟨_, [isNum a 0 8, isNum b 0 8, isNum c 0 8], rfl, rfl, ?_⟩
          have f1 : isNum a 0 8 = true → ∃ n, inR 0 8 n = true ∧ a = .int n := isNum_iff.mp
          have f2 : isNum b 0 8 = true → ∃ n, inR 0 8 n = true ∧ b = .int n := isNum_iff.mp
          have f3 : isNum c 0 8 = true → ∃ n, inR 0 8 n = true ∧ c = .int n := isNum_iff.mp
          cases n1 : isNum a 0 8 with
          | false =>
            refine ite2 (fun _ => hq false ?_) (fun z => absurd z (by simp))
            unfold isNum at n1
            unfold isLoop
            split
            · rename_i e
              cases e
              simp only at n1
              simp [inR, n1]
            · rfl
          | true =>
          cases n2 : isNum b 0 8 with
          | false =>
            refine ite2 (fun _ => hq false ?_) (fun z => absurd z (by simp))
            unfold isNum at n2
            unfold isLoop
            split
            · rename_i e
              cases e
              simp only at n2
              simp [inR, n2]
            · rfl
          | true =>
          cases n3 : isNum c 0 8 with
          | false =>
            refine ite2 (fun _ => hq false ?_) (fun z => absurd z (by simp))
            unfold isNum at n3
            unfold isLoop
            split
            · rename_i e
              cases e
              simp only at n3
              simp [inR, n3]
            · rfl
          | true =>
          obtain ⟨a, e1, rfl⟩ := f1 n1
          obtain ⟨b, e2, rfl⟩ := f2 n2
          obtain ⟨c, e3, rfl⟩ := f3 n3
          refine ite2 (fun z => absurd z (by simp)) (fun _ => ?_)
          walk_at "pls"
          refine ite2 (fun z => hq false ?_) (fun z => ?_)
          · simp only [decide_eq_true_eq] at z
            unfold isLoop
            split
            · rename_i e
              cases e
              simp [Int.not_le.mpr z]
            · rfl
          · have z : a ≤ b := by simpa using z
            refine ⟨s, rfl, s, rfl, gm s (by simp), _, rfl, ?_⟩
            refine ite2 (fun z2 => ?_) (fun z2 => hq false ?_)
            · obtain ⟨t, ht, rfl⟩ := isBod_iff.mp z2
              refine ⟨encB t, rfl, t, rfl, ht, ?_⟩
              walk_at "pls"
              refine hq _ ?_
              unfold encB at z2
              rw [Bool.eq_iff_iff]
              simp only [encB, isLoop, e1, e2, e3, z, z2, szD_B ht, List.length_map, Bool.and_self, decide_true, Bool.true_and, decide_eq_true_eq]
              omega
            · unfold isLoop
              split
              · rename_i e
                cases e
                simp [z2]
              · rfl
    · refine ite2 (fun _ => hq false ?_) (fun z => absurd z ?_)
      · unfold isLoop
        split
        · rename_i e; cases e; simp at h4
        · rfl
      · simp; omega
  | dct _ _ => simp [D.good, D.plain] at hv
  | adr _ => simp [D.good, D.plain] at hv
  | ty _ => simp [D.good, D.plain] at hv
  | _ =>
    walk_at "pls"
    exact q
abbrev s_need_statement_number : Stmt := topS 24
abbrev N_need_statement_number : List Str := ["loop", "value"]
theorem sc_need_statement_number : FnScope N_need_statement_number ["loop", "value"] (defScope s_need_statement_number) := ⟨rfl, rfl, rfl, by decide +kernel, rfl, by decide +kernel, by decide +kernel⟩
theorem ok_need_statement_number  {k : Nat} {C_InvalidNumber : Addr} (T : TopD K mg "need_statement_number" ["loop", "value"] s_need_statement_number) (m_len : mg "len" = none) (c_listed : CallF P w K mg base "listed" 1 k (φ_listed 3)) (c_is_number : CallF P w K mg base "is_number" 3 k (φ_is_number)) (x_InvalidNumber : ExC K mg "InvalidNumber" C_InvalidNumber)  :
    CallF P w K mg base "need_statement_number" 2 (k + 1) (φ_need_statement_number C_InvalidNumber) := by
  refine call_of (N := N_need_statement_number) (k := k) T sc_need_statement_number fun f cdv A outer s H E hr => ⟨_, (pmss_one (pms_if (pmt_not (pmt_val (pm_callF c_is_number hr (by rfl) (pma_cons (pm_var (pv 1)) (pma_cons pm_int (pma_cons (pm_op od_sub (pm_lenK (by rfl) m_len (pk_of (pm_callF c_listed hr (by rfl) (pma_cons (pm_ixK (Room.hu1 hr) (pk_var (pv 0)) pm_int (fun _ _ => rfl)) pma_nil)))) pm_int) pma_nil)))))) (pmss_one (pms_raiseOwn (by rfl) x_InvalidNumber (by rfl))) pmss_nil)), ?_⟩
  rintro ds Wo Q E' - ⟨L, v, rfl, hL, hv, q1, q2⟩
  have hB := (okL_iff.mp hL).2.1
  try simp only [encL, ↓pC, ↓pOp, ↓pUn, ↓pSl, ↓pPart, ↓pNil, ↓pCons, ↓pTup, ↓pLst, ↓pCallB, ↓pTest, ↓pNot, ↓pAnd, ↓pOr, ↓pAndV, ↓pOrV, ↓pNotV, ↓pIf, ↓pNext, ↓pSeq, ↓pBreak, ↓pCont, ↓pDrop, ↓pRet, ↓pRetN, ↓pIfS, ↓pgNil, ↓pgCons, ↓pgTup, ↓pAsg, ↓pRaise, ↓pCall, ↓pIter, ↓pFor, ↓pLc, ↓pYes, ↓pkOf, ↓pIxK, ↓pTabG, ↓pLenK, ↓pChain, ↓pStore, ↓pAppend, ↓pPop, ↓poLst, ↓poDct, ↓pNewW, ↓pRng1, ↓pRng2, ↓pTry, ↓pTryAs, ↓oEq, ↓oNe, ↓oLen, ↓oSum, ↓oAll, ↓oAny, ↓oIsi, start0, List.map_cons, List.map_nil, List.length_cons, List.length_nil, List.cons_append, List.nil_append, List.getElem?_cons_zero, List.getElem?_cons_succ, List.set_cons_zero, List.set_cons_succ, List.replicate, D.bl.injEq, D.int.injEq, D.str.injEq, D.tup.injEq, D.lst.injEq, exists_eq_left', exists_eq_left, Option.some.injEq, Bool.false_eq_true, if_true, if_false, true_and, and_true, false_and, and_false, isi_int, isi_bool, isi_str, isi_tuple, isi_list, isiT_int, isiT_bool, isiT_str, isiT_tuple, isiT_list, Bool.not_true, Bool.not_false, dat_non, dat_bl, dat_int, dat_str, dat_tup, dat_lst, isInt_non, isInt_bl, isInt_int, isInt_str, isInt_tup, isInt_lst, isBool_non, isBool_bl, isBool_int, isBool_str, isBool_tup, isBool_lst, isStr_non, isStr_bl, isStr_int, isStr_str, isStr_tup, isStr_lst, isTup_non, isTup_bl, isTup_int, isTup_str, isTup_tup, isTup_lst, isLst_non, isLst_bl, isLst_int, isLst_str, isLst_tup, isLst_lst, Nat.reduceAdd, Nat.zero_add, sz_0, sz_1, sz_2, sz_3, sz_4, sz_5, sz_6, sz_7, sz_8, sz_9, sz_10, sz_11, sz_12, List.any_cons, List.any_nil, eqD_tup, eqD_str, eqD_int, eqDs_cons, eqDs_nil, eqDs_cn, eqDs_nc, Bool.or_false, Bool.and_true, at0, at1, at2, at3, at4, good_int, good_bl, good_nil, good_nilL, good_non, eqDs_nil_r, eqDs_nil_l, List.isEmpty_nil, List.isEmpty_cons, Bool.and_false, Bool.or_true, Bool.false_or, Bool.true_or, Bool.false_and, Bool.true_and, encB, wipS_mk, List.foldr_cons, List.foldr_nil, con_updW, ↓ixC_ownD, ↓oIx_tup, ↓oIx_lst, ↓oIx_str, ↓lenC_ownL, ↓lenC_ownD, ↓setC_ownD, putC_adr, Own_lst_inj, Con_own_inj, updW_upd, Nat.reduceSub, Nat.sub_self, ↓itD_lst, ↓itD_tup, ↓oInt_i, ↓oCmp_i, ↓oAdd_i, ↓oAdd_s, ↓oAdd_t, ↓oAdd_l, ↓oNeg_i, ↓o1I_i, ↓o2I_i, ↓oSl_t, ↓oSl_l, ↓oList_t, ↓oList_l, ↓oTuple_t, ↓oTuple_l, ↓oIn_t, ↓oIn_l, ↓oIsN_n, ↓ixC_ownLi, ↓setC_ownLi, ixN20, ixN21, ex_int1, ex_int2, ↓pSet_eq, ↓ixK_tup, ↓ixK_lst, ↓ixK_str, ↓ixK_dct, ↓lenK_tup, ↓lenK_lst, ↓lenK_str, ↓pSetO_eq, ↓pPar_eq, ↓kPar_mk, ↓pGet2, ↓pFrzO_eq, ↓kFrz_lst, ↓kFrz_dct, ↓pPairs_nil, ↓pPairs_cons, ↓poDisp, ↓getC_val, isDc_val, ↓poCat, ↓catD_l, ↓pVarV0, ↓pVarV1, ↓pVarL0, ↓pVarL1, ↓pVarD0, ↓pVarD1, ↓pkVarV0, ↓pkVarV1, ↓pkVarO0, ↓pkVarO1, ↓kSetN0, ↓kSetN1, ↓kSetO_N0, ↓kSetO_N1, ↓pgNameN0, ↓pgNameN1, ↓ixS0, ↓ixS1, ↓lenS0, ↓lenS1, ↓setS0, ↓setS1, ↓conS0, ↓conS1, ↓putS0, ↓putS1]
  refine ⟨L.body, rfl, hB, ?_⟩
  walk_at "pls"
  refine ⟨v, _, _, rfl, hv, _, rfl, ?_⟩
  rw [List.length_map]
  cases h : isNum v 0 ((listedB L.body).length - 1) with
  | true => exact q1 h
  | false => exact q2 h
abbrev s_body_without : Stmt := topS 25
abbrev N_body_without : List Str := ["body", "first", "gone", "found", "statement", "parts", "here", "inner"]
theorem sc_body_without : FnScope N_body_without ["body", "first", "gone"] (defScope s_body_without) := ⟨rfl, rfl, rfl, by decide +kernel, rfl, by decide +kernel, by decide +kernel⟩
theorem ok_body_without {d : Nat} {k : Nat}  (T : TopD K mg "body_without" ["body", "first", "gone"] s_body_without) (c_bodies_of : CallF P w K mg base "bodies_of" 1 k (φ_bodies_of)) (m_len : mg "len" = none) (c_listed : CallF P w K mg base "listed" 1 k (φ_listed (d - 1))) (c_body_without : CallF P w K mg base "body_without" 3 k (lowφ 1 φ_body_without d)) (hd : d ≤ 4) :
    CallF P w K mg base "body_without" 3 (k + 1) (φ_body_without d) := by
  refine call_of (N := N_body_without) (k := k) T sc_body_without fun f cdv A outer s H E hr => ⟨_, (pmss_cons (pms_set (i := 3) (fun W t => ps_set (i := 3) sc_body_without.nd rfl (.inl rfl) ((pm_tup pma_nil) W t)))
      (pmss_cons (pms_for (passes_of rfl) rfl (pmi_seq (pm_var (pv 0))) (pmg_of (vs := [4]) (pg_name (i := 4) sc_body_without.nd rfl (.inl rfl)))
      (pmss_cons (pms_par (i := 5) (j := 6) (fun W t => ps_par (i := 5) (j := 6) rfl sc_body_without.nd rfl rfl (by decide) rfl rfl ((pma_cons (pm_tup pma_nil) (pma_cons (pm_op od_add (pm_var (pv 1)) pm_int) pma_nil)) W t) (by rfl)))
      (pmss_cons (pms_for (passes_of rfl) rfl (pmi_seq (pm_callF c_bodies_of hr (by rfl) (pma_cons (pm_var (pv 4)) pma_nil))) (pmg_of (vs := [7]) (pg_name (i := 7) sc_body_without.nd rfl (.inl rfl)))
      (pmss_cons (pms_set (i := 5) (fun W t => ps_set (i := 5) sc_body_without.nd rfl (.inl rfl) ((pm_op od_add (pm_var (pv 5)) (pm_tup (pma_cons (pm_callF c_body_without hr (by rfl) (pma_cons (pm_var (pv 7)) (pma_cons (pm_var (pv 6)) (pma_cons (pm_var (pv 2)) pma_nil)))) pma_nil))) W t)))
      (pmss_one (pms_set (i := 6) (fun W t => ps_set (i := 6) sc_body_without.nd rfl (.inl rfl) ((pm_op od_add (pm_var (pv 6)) (pm_lenK (by rfl) m_len (pk_of (pm_callF c_listed hr (by rfl) (pma_cons (pm_var (pv 7)) pma_nil))))) W t))))))
      (pmss_cons (pms_if (pmt_cmp (od_ne (Room.hu64 hr)) (pm_var (pv 1)) (pm_var (pv 2)) (nomark _)) (pmss_one (pms_set (i := 3) (fun W t => ps_set (i := 3) sc_body_without.nd rfl (.inl rfl) ((pm_op od_add (pm_var (pv 3)) (pm_tup (pma_cons (pm_ifExp (pmt_cmp (od_eq (Room.hu64 hr)) (pm_var (pv 5)) (pm_tup pma_nil) (nomark _)) (pm_var (pv 4)) (pm_op od_add (pm_slice sld (pm_var (pv 4)) (.inl ⟨rfl, rfl⟩) (.inr ⟨_, _, rfl, rfl, pm_int⟩)) (pm_var (pv 5)))) pma_nil))) W t)))) pmss_nil)
      (pmss_one (pms_set (i := 1) (fun W t => ps_set (i := 1) sc_body_without.nd rfl (.inl rfl) ((pm_var (pv 6)) W t))))))))
      (pmss_one (pms_ret (pm_var (pv 3)))))), ?_⟩
  rintro ds Wo Q E' - ⟨b, first, gone, rfl, hb, q⟩
  have hl := (okB_iff.mp hb).1
  walk_at "pls"
  rw [encSs_map]
  refine forW_list encS (fun r S => ∃ b0 first' s4 s5 s6 s7, (∀ x ∈ r, okS d x = true) ∧ b0.length + r.length ≤ 8 ∧ woB b first gone = b0 ++ woB r first' gone ∧ S = ⟨[.val (.tup (encSs b)), .val (.int first'), .val (.int gone), .val (.tup (b0.map encS)), s4, s5, s6, s7], Wo⟩) ?_ ?_ b _ ⟨[], first, .emp, .emp, .emp, .emp, (okB_iff.mp hb).2, by simpa using hl, rfl, by rw [encSs_map]; rfl⟩
  · rintro S ⟨b0, first', s4, s5, s6, s7, h1, h2, h3, rfl⟩
    walk_at "pls"
    rw [h3, woB, List.append_nil, encB, encSs_map] at q
    exact q
  · rintro s r S K' ⟨b0, first', s4, s5, s6, s7, h1, h2, h3, rfl⟩ hK
    have hs := h1 s (List.mem_cons_self ..)
    walk_at "pls"
    refine ⟨s, rfl, ?_⟩
    have hc : ∀ (s' : Stm) s4 s5 s6 s7, (first' ≠ gone → s' = woS s first' gone) → K' ⟨[.val (.tup (encSs b)), .val (.int (first' + (listedS s).length)), .val (.int gone), .val (.tup ((b0 ++ (if first' = gone then [] else [s'])).map encS)), s4, s5, s6, s7], Wo⟩ := fun s' s4 s5 s6 s7 h => hK _ ⟨b0 ++ (if first' = gone then [] else [s']), first' + (listedS s).length, _, _, _, _, fun x hx => h1 x (List.mem_cons_of_mem _ hx), by simp only [List.length_cons] at h2; split <;> simp <;> omega, by rw [h3, woB]; by_cases hh : first' = gone <;> simp [hh, h], rfl⟩
    cases s with
    | ite t x y =>
      cases d with
      | zero => simp [okS] at hs
      | succ d =>
        obtain ⟨_, hx, hy⟩ := okS_ite.mp hs
        try simp only [bodD, forW, Nat.add_sub_cancel, ↓pC, ↓pOp, ↓pUn, ↓pSl, ↓pPart, ↓pNil, ↓pCons, ↓pTup, ↓pLst, ↓pCallB, ↓pTest, ↓pNot, ↓pAnd, ↓pOr, ↓pAndV, ↓pOrV, ↓pNotV, ↓pIf, ↓pNext, ↓pSeq, ↓pBreak, ↓pCont, ↓pDrop, ↓pRet, ↓pRetN, ↓pIfS, ↓pgNil, ↓pgCons, ↓pgTup, ↓pAsg, ↓pRaise, ↓pCall, ↓pIter, ↓pFor, ↓pLc, ↓pYes, ↓pkOf, ↓pIxK, ↓pTabG, ↓pLenK, ↓pChain, ↓pStore, ↓pAppend, ↓pPop, ↓poLst, ↓poDct, ↓pNewW, ↓pRng1, ↓pRng2, ↓pTry, ↓pTryAs, ↓oEq, ↓oNe, ↓oLen, ↓oSum, ↓oAll, ↓oAny, ↓oIsi, start0, List.map_cons, List.map_nil, List.length_cons, List.length_nil, List.cons_append, List.nil_append, List.getElem?_cons_zero, List.getElem?_cons_succ, List.set_cons_zero, List.set_cons_succ, List.replicate, D.bl.injEq, D.int.injEq, D.str.injEq, D.tup.injEq, D.lst.injEq, exists_eq_left', exists_eq_left, Option.some.injEq, Bool.false_eq_true, if_true, if_false, true_and, and_true, false_and, and_false, isi_int, isi_bool, isi_str, isi_tuple, isi_list, isiT_int, isiT_bool, isiT_str, isiT_tuple, isiT_list, Bool.not_true, Bool.not_false, dat_non, dat_bl, dat_int, dat_str, dat_tup, dat_lst, isInt_non, isInt_bl, isInt_int, isInt_str, isInt_tup, isInt_lst, isBool_non, isBool_bl, isBool_int, isBool_str, isBool_tup, isBool_lst, isStr_non, isStr_bl, isStr_int, isStr_str, isStr_tup, isStr_lst, isTup_non, isTup_bl, isTup_int, isTup_str, isTup_tup, isTup_lst, isLst_non, isLst_bl, isLst_int, isLst_str, isLst_tup, isLst_lst, Nat.reduceAdd, Nat.zero_add, sz_0, sz_1, sz_2, sz_3, sz_4, sz_5, sz_6, sz_7, sz_8, sz_9, sz_10, sz_11, sz_12, List.any_cons, List.any_nil, eqD_tup, eqD_str, eqD_int, eqDs_cons, eqDs_nil, eqDs_cn, eqDs_nc, Bool.or_false, Bool.and_true, at0, at1, at2, at3, at4, good_int, good_bl, good_nil, good_nilL, good_non, eqDs_nil_r, eqDs_nil_l, List.isEmpty_nil, List.isEmpty_cons, Bool.and_false, Bool.or_true, Bool.false_or, Bool.true_or, Bool.false_and, Bool.true_and, encB, wipS_mk, List.foldr_cons, List.foldr_nil, con_updW, ↓ixC_ownD, ↓oIx_tup, ↓oIx_lst, ↓oIx_str, ↓lenC_ownL, ↓lenC_ownD, ↓setC_ownD, putC_adr, Own_lst_inj, Con_own_inj, updW_upd, Nat.reduceSub, Nat.sub_self, ↓itD_lst, ↓itD_tup, ↓oInt_i, ↓oCmp_i, ↓oAdd_i, ↓oAdd_s, ↓oAdd_t, ↓oAdd_l, ↓oNeg_i, ↓o1I_i, ↓o2I_i, ↓oSl_t, ↓oSl_l, ↓oList_t, ↓oList_l, ↓oTuple_t, ↓oTuple_l, ↓oIn_t, ↓oIn_l, ↓oIsN_n, ↓ixC_ownLi, ↓setC_ownLi, ixN20, ixN21, ex_int1, ex_int2, ↓pSet_eq, ↓ixK_tup, ↓ixK_lst, ↓ixK_str, ↓ixK_dct, ↓lenK_tup, ↓lenK_lst, ↓lenK_str, ↓pSetO_eq, ↓pPar_eq, ↓kPar_mk, ↓pGet2, ↓pFrzO_eq, ↓kFrz_lst, ↓kFrz_dct, ↓pPairs_nil, ↓pPairs_cons, ↓poDisp, ↓getC_val, isDc_val, ↓poCat, ↓catD_l, ↓pVarV0, ↓pVarV1, ↓pVarV2, ↓pVarV3, ↓pVarV4, ↓pVarV5, ↓pVarV6, ↓pVarV7, ↓pVarL0, ↓pVarL1, ↓pVarL2, ↓pVarL3, ↓pVarL4, ↓pVarL5, ↓pVarL6, ↓pVarL7, ↓pVarD0, ↓pVarD1, ↓pVarD2, ↓pVarD3, ↓pVarD4, ↓pVarD5, ↓pVarD6, ↓pVarD7, ↓pkVarV0, ↓pkVarV1, ↓pkVarV2, ↓pkVarV3, ↓pkVarV4, ↓pkVarV5, ↓pkVarV6, ↓pkVarV7, ↓pkVarO0, ↓pkVarO1, ↓pkVarO2, ↓pkVarO3, ↓pkVarO4, ↓pkVarO5, ↓pkVarO6, ↓pkVarO7, ↓kSetN0, ↓kSetN1, ↓kSetN2, ↓kSetN3, ↓kSetN4, ↓kSetN5, ↓kSetN6, ↓kSetN7, ↓kSetO_N0, ↓kSetO_N1, ↓kSetO_N2, ↓kSetO_N3, ↓kSetO_N4, ↓kSetO_N5, ↓kSetO_N6, ↓kSetO_N7, ↓pgNameN0, ↓pgNameN1, ↓pgNameN2, ↓pgNameN3, ↓pgNameN4, ↓pgNameN5, ↓pgNameN6, ↓pgNameN7, ↓ixS0, ↓ixS1, ↓ixS2, ↓ixS3, ↓ixS4, ↓ixS5, ↓ixS6, ↓ixS7, ↓lenS0, ↓lenS1, ↓lenS2, ↓lenS3, ↓lenS4, ↓lenS5, ↓lenS6, ↓lenS7, ↓setS0, ↓setS1, ↓setS2, ↓setS3, ↓setS4, ↓setS5, ↓setS6, ↓setS7, ↓conS0, ↓conS1, ↓conS2, ↓conS3, ↓conS4, ↓conS5, ↓conS6, ↓conS7, ↓putS0, ↓putS1, ↓putS2, ↓putS3, ↓putS4, ↓putS5, ↓putS6, ↓putS7]
        refine ⟨by omega, x, _, _, rfl, hx, x, rfl, hx, ?_⟩
        walk_at "pls"
        refine ⟨by omega, y, _, _, rfl, hy, y, rfl, hy, ?_⟩
        walk_at "pls"
        obtain ⟨o1, _⟩ := woB_ok x d (first' + 1) gone hx
        obtain ⟨o2, _⟩ := woB_ok y d (first' + 1 + (listedB x).length) gone hy
        have fin := hc (.ite t (woB x (first' + 1) gone) (woB y (first' + 1 + (listedB x).length) gone))
        simp only [List.length_map, listedS, List.length_cons, List.length_append] at fin ⊢
        have e2 : first' + (((listedB x).length + (listedB y).length + 1 : Nat) : Int) = first' + 1 + (listedB x).length + (listedB y).length := by omega
        rw [e2] at fin
        refine ite2 (fun z => ?_) (fun z => ?_)
        · have z : first' ≠ gone := by simpa using z
          have gd : D.good (.tup [encB (woB x (first' + 1) gone), encB (woB y (first' + 1 + (listedB x).length) gone)]) = true := by
            refine gd_good (n := 2 * d + 3) ?_ (by omega)
            rw [gd_tup]
            simp only [List.all_cons, List.all_nil, gd_B o1, gd_B o2, Bool.and_self]
          refine ⟨gd, ?_⟩
          try simp only [encS, ↓pC, ↓pOp, ↓pUn, ↓pSl, ↓pPart, ↓pNil, ↓pCons, ↓pTup, ↓pLst, ↓pCallB, ↓pTest, ↓pNot, ↓pAnd, ↓pOr, ↓pAndV, ↓pOrV, ↓pNotV, ↓pIf, ↓pNext, ↓pSeq, ↓pBreak, ↓pCont, ↓pDrop, ↓pRet, ↓pRetN, ↓pIfS, ↓pgNil, ↓pgCons, ↓pgTup, ↓pAsg, ↓pRaise, ↓pCall, ↓pIter, ↓pFor, ↓pLc, ↓pYes, ↓pkOf, ↓pIxK, ↓pTabG, ↓pLenK, ↓pChain, ↓pStore, ↓pAppend, ↓pPop, ↓poLst, ↓poDct, ↓pNewW, ↓pRng1, ↓pRng2, ↓pTry, ↓pTryAs, ↓oEq, ↓oNe, ↓oLen, ↓oSum, ↓oAll, ↓oAny, ↓oIsi, start0, List.map_cons, List.map_nil, List.length_cons, List.length_nil, List.cons_append, List.nil_append, List.getElem?_cons_zero, List.getElem?_cons_succ, List.set_cons_zero, List.set_cons_succ, List.replicate, D.bl.injEq, D.int.injEq, D.str.injEq, D.tup.injEq, D.lst.injEq, exists_eq_left', exists_eq_left, Option.some.injEq, Bool.false_eq_true, if_true, if_false, true_and, and_true, false_and, and_false, isi_int, isi_bool, isi_str, isi_tuple, isi_list, isiT_int, isiT_bool, isiT_str, isiT_tuple, isiT_list, Bool.not_true, Bool.not_false, dat_non, dat_bl, dat_int, dat_str, dat_tup, dat_lst, isInt_non, isInt_bl, isInt_int, isInt_str, isInt_tup, isInt_lst, isBool_non, isBool_bl, isBool_int, isBool_str, isBool_tup, isBool_lst, isStr_non, isStr_bl, isStr_int, isStr_str, isStr_tup, isStr_lst, isTup_non, isTup_bl, isTup_int, isTup_str, isTup_tup, isTup_lst, isLst_non, isLst_bl, isLst_int, isLst_str, isLst_tup, isLst_lst, Nat.reduceAdd, Nat.zero_add, sz_0, sz_1, sz_2, sz_3, sz_4, sz_5, sz_6, sz_7, sz_8, sz_9, sz_10, sz_11, sz_12, List.any_cons, List.any_nil, eqD_tup, eqD_str, eqD_int, eqDs_cons, eqDs_nil, eqDs_cn, eqDs_nc, Bool.or_false, Bool.and_true, at0, at1, at2, at3, at4, good_int, good_bl, good_nil, good_nilL, good_non, eqDs_nil_r, eqDs_nil_l, List.isEmpty_nil, List.isEmpty_cons, Bool.and_false, Bool.or_true, Bool.false_or, Bool.true_or, Bool.false_and, Bool.true_and, encB, wipS_mk, List.foldr_cons, List.foldr_nil, con_updW, ↓ixC_ownD, ↓oIx_tup, ↓oIx_lst, ↓oIx_str, ↓lenC_ownL, ↓lenC_ownD, ↓setC_ownD, putC_adr, Own_lst_inj, Con_own_inj, updW_upd, Nat.reduceSub, Nat.sub_self, ↓itD_lst, ↓itD_tup, ↓oInt_i, ↓oCmp_i, ↓oAdd_i, ↓oAdd_s, ↓oAdd_t, ↓oAdd_l, ↓oNeg_i, ↓o1I_i, ↓o2I_i, ↓oSl_t, ↓oSl_l, ↓oList_t, ↓oList_l, ↓oTuple_t, ↓oTuple_l, ↓oIn_t, ↓oIn_l, ↓oIsN_n, ↓ixC_ownLi, ↓setC_ownLi, ixN20, ixN21, ex_int1, ex_int2, ↓pSet_eq, ↓ixK_tup, ↓ixK_lst, ↓ixK_str, ↓ixK_dct, ↓lenK_tup, ↓lenK_lst, ↓lenK_str, ↓pSetO_eq, ↓pPar_eq, ↓kPar_mk, ↓pGet2, ↓pFrzO_eq, ↓kFrz_lst, ↓kFrz_dct, ↓pPairs_nil, ↓pPairs_cons, ↓poDisp, ↓getC_val, isDc_val, ↓poCat, ↓catD_l, ↓pVarV0, ↓pVarV1, ↓pVarV2, ↓pVarV3, ↓pVarV4, ↓pVarV5, ↓pVarV6, ↓pVarV7, ↓pVarL0, ↓pVarL1, ↓pVarL2, ↓pVarL3, ↓pVarL4, ↓pVarL5, ↓pVarL6, ↓pVarL7, ↓pVarD0, ↓pVarD1, ↓pVarD2, ↓pVarD3, ↓pVarD4, ↓pVarD5, ↓pVarD6, ↓pVarD7, ↓pkVarV0, ↓pkVarV1, ↓pkVarV2, ↓pkVarV3, ↓pkVarV4, ↓pkVarV5, ↓pkVarV6, ↓pkVarV7, ↓pkVarO0, ↓pkVarO1, ↓pkVarO2, ↓pkVarO3, ↓pkVarO4, ↓pkVarO5, ↓pkVarO6, ↓pkVarO7, ↓kSetN0, ↓kSetN1, ↓kSetN2, ↓kSetN3, ↓kSetN4, ↓kSetN5, ↓kSetN6, ↓kSetN7, ↓kSetO_N0, ↓kSetO_N1, ↓kSetO_N2, ↓kSetO_N3, ↓kSetO_N4, ↓kSetO_N5, ↓kSetO_N6, ↓kSetO_N7, ↓pgNameN0, ↓pgNameN1, ↓pgNameN2, ↓pgNameN3, ↓pgNameN4, ↓pgNameN5, ↓pgNameN6, ↓pgNameN7, ↓ixS0, ↓ixS1, ↓ixS2, ↓ixS3, ↓ixS4, ↓ixS5, ↓ixS6, ↓ixS7, ↓lenS0, ↓lenS1, ↓lenS2, ↓lenS3, ↓lenS4, ↓lenS5, ↓lenS6, ↓lenS7, ↓setS0, ↓setS1, ↓setS2, ↓setS3, ↓setS4, ↓setS5, ↓setS6, ↓setS7, ↓conS0, ↓conS1, ↓conS2, ↓conS3, ↓conS4, ↓conS5, ↓conS6, ↓conS7, ↓putS0, ↓putS1, ↓putS2, ↓putS3, ↓putS4, ↓putS5, ↓putS6, ↓putS7]
          rw [show (2 : Int) = ((2 : Nat) : Int) from rfl, cut_to _ _ (by simp)]
          refine ⟨by show _ ≤ 2 ^ 24; simp, by simp only [List.length_cons] at h2; show _ ≤ 2 ^ 24; omega, ?_⟩
          have := fun s4 s5 s6 s7 => fin s4 s5 s6 s7 (fun _ => rfl)
          simp only [if_neg z, List.map_append] at this
          exact this _ _ _ _
        · have z : first' = gone := by simpa using z
          have := fun s4 s5 s6 s7 => fin s4 s5 s6 s7 (fun _ => rfl)
          simp only [if_pos z, List.append_nil] at this
          exact this _ _ _ _
    | _ =>
      try simp only [bodD, forW, ↓pC, ↓pOp, ↓pUn, ↓pSl, ↓pPart, ↓pNil, ↓pCons, ↓pTup, ↓pLst, ↓pCallB, ↓pTest, ↓pNot, ↓pAnd, ↓pOr, ↓pAndV, ↓pOrV, ↓pNotV, ↓pIf, ↓pNext, ↓pSeq, ↓pBreak, ↓pCont, ↓pDrop, ↓pRet, ↓pRetN, ↓pIfS, ↓pgNil, ↓pgCons, ↓pgTup, ↓pAsg, ↓pRaise, ↓pCall, ↓pIter, ↓pFor, ↓pLc, ↓pYes, ↓pkOf, ↓pIxK, ↓pTabG, ↓pLenK, ↓pChain, ↓pStore, ↓pAppend, ↓pPop, ↓poLst, ↓poDct, ↓pNewW, ↓pRng1, ↓pRng2, ↓pTry, ↓pTryAs, ↓oEq, ↓oNe, ↓oLen, ↓oSum, ↓oAll, ↓oAny, ↓oIsi, start0, List.map_cons, List.map_nil, List.length_cons, List.length_nil, List.cons_append, List.nil_append, List.getElem?_cons_zero, List.getElem?_cons_succ, List.set_cons_zero, List.set_cons_succ, List.replicate, D.bl.injEq, D.int.injEq, D.str.injEq, D.tup.injEq, D.lst.injEq, exists_eq_left', exists_eq_left, Option.some.injEq, Bool.false_eq_true, if_true, if_false, true_and, and_true, false_and, and_false, isi_int, isi_bool, isi_str, isi_tuple, isi_list, isiT_int, isiT_bool, isiT_str, isiT_tuple, isiT_list, Bool.not_true, Bool.not_false, dat_non, dat_bl, dat_int, dat_str, dat_tup, dat_lst, isInt_non, isInt_bl, isInt_int, isInt_str, isInt_tup, isInt_lst, isBool_non, isBool_bl, isBool_int, isBool_str, isBool_tup, isBool_lst, isStr_non, isStr_bl, isStr_int, isStr_str, isStr_tup, isStr_lst, isTup_non, isTup_bl, isTup_int, isTup_str, isTup_tup, isTup_lst, isLst_non, isLst_bl, isLst_int, isLst_str, isLst_tup, isLst_lst, Nat.reduceAdd, Nat.zero_add, sz_0, sz_1, sz_2, sz_3, sz_4, sz_5, sz_6, sz_7, sz_8, sz_9, sz_10, sz_11, sz_12, List.any_cons, List.any_nil, eqD_tup, eqD_str, eqD_int, eqDs_cons, eqDs_nil, eqDs_cn, eqDs_nc, Bool.or_false, Bool.and_true, at0, at1, at2, at3, at4, good_int, good_bl, good_nil, good_nilL, good_non, eqDs_nil_r, eqDs_nil_l, List.isEmpty_nil, List.isEmpty_cons, Bool.and_false, Bool.or_true, Bool.false_or, Bool.true_or, Bool.false_and, Bool.true_and, encB, wipS_mk, List.foldr_cons, List.foldr_nil, con_updW, ↓ixC_ownD, ↓oIx_tup, ↓oIx_lst, ↓oIx_str, ↓lenC_ownL, ↓lenC_ownD, ↓setC_ownD, putC_adr, Own_lst_inj, Con_own_inj, updW_upd, Nat.reduceSub, Nat.sub_self, ↓itD_lst, ↓itD_tup, ↓oInt_i, ↓oCmp_i, ↓oAdd_i, ↓oAdd_s, ↓oAdd_t, ↓oAdd_l, ↓oNeg_i, ↓o1I_i, ↓o2I_i, ↓oSl_t, ↓oSl_l, ↓oList_t, ↓oList_l, ↓oTuple_t, ↓oTuple_l, ↓oIn_t, ↓oIn_l, ↓oIsN_n, ↓ixC_ownLi, ↓setC_ownLi, ixN20, ixN21, ex_int1, ex_int2, ↓pSet_eq, ↓ixK_tup, ↓ixK_lst, ↓ixK_str, ↓ixK_dct, ↓lenK_tup, ↓lenK_lst, ↓lenK_str, ↓pSetO_eq, ↓pPar_eq, ↓kPar_mk, ↓pGet2, ↓pFrzO_eq, ↓kFrz_lst, ↓kFrz_dct, ↓pPairs_nil, ↓pPairs_cons, ↓poDisp, ↓getC_val, isDc_val, ↓poCat, ↓catD_l, ↓pVarV0, ↓pVarV1, ↓pVarV2, ↓pVarV3, ↓pVarV4, ↓pVarV5, ↓pVarV6, ↓pVarV7, ↓pVarL0, ↓pVarL1, ↓pVarL2, ↓pVarL3, ↓pVarL4, ↓pVarL5, ↓pVarL6, ↓pVarL7, ↓pVarD0, ↓pVarD1, ↓pVarD2, ↓pVarD3, ↓pVarD4, ↓pVarD5, ↓pVarD6, ↓pVarD7, ↓pkVarV0, ↓pkVarV1, ↓pkVarV2, ↓pkVarV3, ↓pkVarV4, ↓pkVarV5, ↓pkVarV6, ↓pkVarV7, ↓pkVarO0, ↓pkVarO1, ↓pkVarO2, ↓pkVarO3, ↓pkVarO4, ↓pkVarO5, ↓pkVarO6, ↓pkVarO7, ↓kSetN0, ↓kSetN1, ↓kSetN2, ↓kSetN3, ↓kSetN4, ↓kSetN5, ↓kSetN6, ↓kSetN7, ↓kSetO_N0, ↓kSetO_N1, ↓kSetO_N2, ↓kSetO_N3, ↓kSetO_N4, ↓kSetO_N5, ↓kSetO_N6, ↓kSetO_N7, ↓pgNameN0, ↓pgNameN1, ↓pgNameN2, ↓pgNameN3, ↓pgNameN4, ↓pgNameN5, ↓pgNameN6, ↓pgNameN7, ↓ixS0, ↓ixS1, ↓ixS2, ↓ixS3, ↓ixS4, ↓ixS5, ↓ixS6, ↓ixS7, ↓lenS0, ↓lenS1, ↓lenS2, ↓lenS3, ↓lenS4, ↓lenS5, ↓lenS6, ↓lenS7, ↓setS0, ↓setS1, ↓setS2, ↓setS3, ↓setS4, ↓setS5, ↓setS6, ↓setS7, ↓conS0, ↓conS1, ↓conS2, ↓conS3, ↓conS4, ↓conS5, ↓conS6, ↓conS7, ↓putS0, ↓putS1, ↓putS2, ↓putS3, ↓putS4, ↓putS5, ↓putS6, ↓putS7]
      refine ite2 (fun z => ?_) (fun z => ?_)
      · have z : first' ≠ gone := by simpa using z
        refine ⟨by simp only [List.length_cons] at h2; show _ ≤ 2 ^ 24; rw [List.length_map]; omega, ?_⟩
        have := fun s' s4 s5 s6 s7 => hc s' s4 s5 s6 s7
        simp only [if_neg z, List.map_append] at this
        exact this _ _ _ _ _ (fun _ => rfl)
      · have z : first' = gone := by simpa using z
        have := fun s' s4 s5 s6 s7 => hc s' s4 s5 s6 s7
        simp only [if_pos z, List.append_nil] at this
        exact this _ _ _ _ _ (fun _ => rfl)
abbrev s_less_one : Stmt := topS 26
abbrev N_less_one : List Str := ["loop", "number"]
theorem sc_less_one : FnScope N_less_one ["loop", "number"] (defScope s_less_one) := ⟨rfl, rfl, rfl, by decide +kernel, rfl, by decide +kernel, by decide +kernel⟩
theorem ok_less_one  {k : Nat}  (T : TopD K mg "less_one" ["loop", "number"] s_less_one) (c_body_without : CallF P w K mg base "body_without" 3 k (φ_body_without 3))  :
    CallF P w K mg base "less_one" 2 (k + 1) (φ_less_one) := by
  refine call_of (N := N_less_one) (k := k) T sc_less_one fun f cdv A outer s H E hr => ⟨_, (pmss_one (pms_ret (pm_op od_add (pm_slice sld (pm_var (pv 0)) (.inl ⟨rfl, rfl⟩) (.inr ⟨_, _, rfl, rfl, pm_int⟩)) (pm_tup (pma_cons (pm_callF c_body_without hr (by rfl) (pma_cons (pm_ixK (Room.hu1 hr) (pk_var (pv 0)) pm_int (fun _ _ => rfl)) (pma_cons pm_int (pma_cons (pm_var (pv 1)) pma_nil)))) pma_nil))))), ?_⟩
  rintro ds Wo Q E' - ⟨L, n, rfl, hL, q⟩
  have hB := (okL_iff.mp hL).2.1
  try simp only [encL, ↓pC, ↓pOp, ↓pUn, ↓pSl, ↓pPart, ↓pNil, ↓pCons, ↓pTup, ↓pLst, ↓pCallB, ↓pTest, ↓pNot, ↓pAnd, ↓pOr, ↓pAndV, ↓pOrV, ↓pNotV, ↓pIf, ↓pNext, ↓pSeq, ↓pBreak, ↓pCont, ↓pDrop, ↓pRet, ↓pRetN, ↓pIfS, ↓pgNil, ↓pgCons, ↓pgTup, ↓pAsg, ↓pRaise, ↓pCall, ↓pIter, ↓pFor, ↓pLc, ↓pYes, ↓pkOf, ↓pIxK, ↓pTabG, ↓pLenK, ↓pChain, ↓pStore, ↓pAppend, ↓pPop, ↓poLst, ↓poDct, ↓pNewW, ↓pRng1, ↓pRng2, ↓pTry, ↓pTryAs, ↓oEq, ↓oNe, ↓oLen, ↓oSum, ↓oAll, ↓oAny, ↓oIsi, start0, List.map_cons, List.map_nil, List.length_cons, List.length_nil, List.cons_append, List.nil_append, List.getElem?_cons_zero, List.getElem?_cons_succ, List.set_cons_zero, List.set_cons_succ, List.replicate, D.bl.injEq, D.int.injEq, D.str.injEq, D.tup.injEq, D.lst.injEq, exists_eq_left', exists_eq_left, Option.some.injEq, Bool.false_eq_true, if_true, if_false, true_and, and_true, false_and, and_false, isi_int, isi_bool, isi_str, isi_tuple, isi_list, isiT_int, isiT_bool, isiT_str, isiT_tuple, isiT_list, Bool.not_true, Bool.not_false, dat_non, dat_bl, dat_int, dat_str, dat_tup, dat_lst, isInt_non, isInt_bl, isInt_int, isInt_str, isInt_tup, isInt_lst, isBool_non, isBool_bl, isBool_int, isBool_str, isBool_tup, isBool_lst, isStr_non, isStr_bl, isStr_int, isStr_str, isStr_tup, isStr_lst, isTup_non, isTup_bl, isTup_int, isTup_str, isTup_tup, isTup_lst, isLst_non, isLst_bl, isLst_int, isLst_str, isLst_tup, isLst_lst, Nat.reduceAdd, Nat.zero_add, sz_0, sz_1, sz_2, sz_3, sz_4, sz_5, sz_6, sz_7, sz_8, sz_9, sz_10, sz_11, sz_12, List.any_cons, List.any_nil, eqD_tup, eqD_str, eqD_int, eqDs_cons, eqDs_nil, eqDs_cn, eqDs_nc, Bool.or_false, Bool.and_true, at0, at1, at2, at3, at4, good_int, good_bl, good_nil, good_nilL, good_non, eqDs_nil_r, eqDs_nil_l, List.isEmpty_nil, List.isEmpty_cons, Bool.and_false, Bool.or_true, Bool.false_or, Bool.true_or, Bool.false_and, Bool.true_and, encB, wipS_mk, List.foldr_cons, List.foldr_nil, con_updW, ↓ixC_ownD, ↓oIx_tup, ↓oIx_lst, ↓oIx_str, ↓lenC_ownL, ↓lenC_ownD, ↓setC_ownD, putC_adr, Own_lst_inj, Con_own_inj, updW_upd, Nat.reduceSub, Nat.sub_self, ↓itD_lst, ↓itD_tup, ↓oInt_i, ↓oCmp_i, ↓oAdd_i, ↓oAdd_s, ↓oAdd_t, ↓oAdd_l, ↓oNeg_i, ↓o1I_i, ↓o2I_i, ↓oSl_t, ↓oSl_l, ↓oList_t, ↓oList_l, ↓oTuple_t, ↓oTuple_l, ↓oIn_t, ↓oIn_l, ↓oIsN_n, ↓ixC_ownLi, ↓setC_ownLi, ixN20, ixN21, ex_int1, ex_int2, ↓pSet_eq, ↓ixK_tup, ↓ixK_lst, ↓ixK_str, ↓ixK_dct, ↓lenK_tup, ↓lenK_lst, ↓lenK_str, ↓pSetO_eq, ↓pPar_eq, ↓kPar_mk, ↓pGet2, ↓pFrzO_eq, ↓kFrz_lst, ↓kFrz_dct, ↓pPairs_nil, ↓pPairs_cons, ↓poDisp, ↓getC_val, isDc_val, ↓poCat, ↓catD_l, ↓pVarV0, ↓pVarV1, ↓pVarL0, ↓pVarL1, ↓pVarD0, ↓pVarD1, ↓pkVarV0, ↓pkVarV1, ↓pkVarO0, ↓pkVarO1, ↓kSetN0, ↓kSetN1, ↓kSetO_N0, ↓kSetO_N1, ↓pgNameN0, ↓pgNameN1, ↓ixS0, ↓ixS1, ↓lenS0, ↓lenS1, ↓setS0, ↓setS1, ↓conS0, ↓conS1, ↓putS0, ↓putS1]
  rw [show (3 : Int) = ((3 : Nat) : Int) from rfl, cut_to _ _ (by simp)]
  refine ⟨L.body, 0, n, rfl, hB, ?_⟩
  walk_at "pls"
  exact ⟨by show _ ≤ 2 ^ 24; simp, q⟩
abbrev s_words_of : Stmt := topS 27
abbrev N_words_of : List Str := ["loop", "statement"]
theorem sc_words_of : FnScope N_words_of ["loop"] (defScope s_words_of) := ⟨rfl, rfl, rfl, by decide +kernel, rfl, by decide +kernel, by decide +kernel⟩
theorem ok_words_of  {k : Nat}  (T : TopD K mg "words_of" ["loop"] s_words_of) (c_listed : CallF P w K mg base "listed" 1 k (φ_listed 3))  :
    CallF P w K mg base "words_of" 1 (k + 1) (φ_words_of) := by
  refine call_of (N := N_words_of) (k := k) T sc_words_of fun f cdv A outer s H E hr => ⟨_, (pmss_one (pms_ret (pm_lc (own := [("statement", 1)]) rfl sc_words_of.nd (pmi_seq (pm_callF c_listed hr (by rfl) (pma_cons (pm_ixK (Room.hu1 hr) (pk_var (pv 0)) pm_int (fun _ _ => rfl)) pma_nil))) (blkOk_by (own := [("statement", 1)]) (N := N_words_of) (sc := defScope s_words_of) (by decide +kernel)) (fun _ _ _ _ _ => (pmg_of (vs := [1]) (pg_name (i := 1) sc_words_of.nd rfl (.inl rfl)))) (fun _ _ _ _ _ => pmts_nil) (fun _ _ _ _ _ => (pm_ixK (Room.hu1 hr) (pk_var (pv 1)) pm_int (fun _ _ => rfl)))))), ?_⟩
  rintro ds Wo Q E' - ⟨L, rfl, hL, q⟩
  have hB := (okL_iff.mp hL).2.1
  have h12 := (okL_iff.mp hL).2.2
  try simp only [encL, ↓pC, ↓pOp, ↓pUn, ↓pSl, ↓pPart, ↓pNil, ↓pCons, ↓pTup, ↓pLst, ↓pCallB, ↓pTest, ↓pNot, ↓pAnd, ↓pOr, ↓pAndV, ↓pOrV, ↓pNotV, ↓pIf, ↓pNext, ↓pSeq, ↓pBreak, ↓pCont, ↓pDrop, ↓pRet, ↓pRetN, ↓pIfS, ↓pgNil, ↓pgCons, ↓pgTup, ↓pAsg, ↓pRaise, ↓pCall, ↓pIter, ↓pFor, ↓pLc, ↓pYes, ↓pkOf, ↓pIxK, ↓pTabG, ↓pLenK, ↓pChain, ↓pStore, ↓pAppend, ↓pPop, ↓poLst, ↓poDct, ↓pNewW, ↓pRng1, ↓pRng2, ↓pTry, ↓pTryAs, ↓oEq, ↓oNe, ↓oLen, ↓oSum, ↓oAll, ↓oAny, ↓oIsi, start0, List.map_cons, List.map_nil, List.length_cons, List.length_nil, List.cons_append, List.nil_append, List.getElem?_cons_zero, List.getElem?_cons_succ, List.set_cons_zero, List.set_cons_succ, List.replicate, D.bl.injEq, D.int.injEq, D.str.injEq, D.tup.injEq, D.lst.injEq, exists_eq_left', exists_eq_left, Option.some.injEq, Bool.false_eq_true, if_true, if_false, true_and, and_true, false_and, and_false, isi_int, isi_bool, isi_str, isi_tuple, isi_list, isiT_int, isiT_bool, isiT_str, isiT_tuple, isiT_list, Bool.not_true, Bool.not_false, dat_non, dat_bl, dat_int, dat_str, dat_tup, dat_lst, isInt_non, isInt_bl, isInt_int, isInt_str, isInt_tup, isInt_lst, isBool_non, isBool_bl, isBool_int, isBool_str, isBool_tup, isBool_lst, isStr_non, isStr_bl, isStr_int, isStr_str, isStr_tup, isStr_lst, isTup_non, isTup_bl, isTup_int, isTup_str, isTup_tup, isTup_lst, isLst_non, isLst_bl, isLst_int, isLst_str, isLst_tup, isLst_lst, Nat.reduceAdd, Nat.zero_add, sz_0, sz_1, sz_2, sz_3, sz_4, sz_5, sz_6, sz_7, sz_8, sz_9, sz_10, sz_11, sz_12, List.any_cons, List.any_nil, eqD_tup, eqD_str, eqD_int, eqDs_cons, eqDs_nil, eqDs_cn, eqDs_nc, Bool.or_false, Bool.and_true, at0, at1, at2, at3, at4, good_int, good_bl, good_nil, good_nilL, good_non, eqDs_nil_r, eqDs_nil_l, List.isEmpty_nil, List.isEmpty_cons, Bool.and_false, Bool.or_true, Bool.false_or, Bool.true_or, Bool.false_and, Bool.true_and, encB, wipS_mk, List.foldr_cons, List.foldr_nil, con_updW, ↓ixC_ownD, ↓oIx_tup, ↓oIx_lst, ↓oIx_str, ↓lenC_ownL, ↓lenC_ownD, ↓setC_ownD, putC_adr, Own_lst_inj, Con_own_inj, updW_upd, Nat.reduceSub, Nat.sub_self, ↓itD_lst, ↓itD_tup, ↓oInt_i, ↓oCmp_i, ↓oAdd_i, ↓oAdd_s, ↓oAdd_t, ↓oAdd_l, ↓oNeg_i, ↓o1I_i, ↓o2I_i, ↓oSl_t, ↓oSl_l, ↓oList_t, ↓oList_l, ↓oTuple_t, ↓oTuple_l, ↓oIn_t, ↓oIn_l, ↓oIsN_n, ↓ixC_ownLi, ↓setC_ownLi, ixN20, ixN21, ex_int1, ex_int2, ↓pSet_eq, ↓ixK_tup, ↓ixK_lst, ↓ixK_str, ↓ixK_dct, ↓lenK_tup, ↓lenK_lst, ↓lenK_str, ↓pSetO_eq, ↓pPar_eq, ↓kPar_mk, ↓pGet2, ↓pFrzO_eq, ↓kFrz_lst, ↓kFrz_dct, ↓pPairs_nil, ↓pPairs_cons, ↓poDisp, ↓getC_val, isDc_val, ↓poCat, ↓catD_l, ↓pVarV0, ↓pVarV1, ↓pVarL0, ↓pVarL1, ↓pVarD0, ↓pVarD1, ↓pkVarV0, ↓pkVarV1, ↓pkVarO0, ↓pkVarO1, ↓kSetN0, ↓kSetN1, ↓kSetO_N0, ↓kSetO_N1, ↓pgNameN0, ↓pgNameN1, ↓ixS0, ↓ixS1, ↓lenS0, ↓lenS1, ↓setS0, ↓setS1, ↓conS0, ↓conS1, ↓putS0, ↓putS1]
  refine ⟨L.body, rfl, hB, ?_⟩
  walk_at "pls"
  refine lcW_list encS (fun r acc S => ∃ a, listedB L.body = a ++ r ∧ acc = a.map (fun s => .str (wordS s)) ∧ S = ⟨[.val (encL L), .emp], Wo⟩) ?_ ?_ _ _ _ ⟨[], rfl, rfl, rfl⟩
  · rintro acc S ⟨a, h1, rfl, rfl⟩
    rw [List.append_nil] at h1
    rw [h1] at q
    exact q
  · rintro s r acc S K' ⟨a, h1, rfl, rfl⟩ hK
    have fin : K' (a.map (fun s => D.str (wordS s)) ++ [.str (wordS s)]) ⟨[.val (encL L), .emp], Wo⟩ := hK _ _ ⟨a ++ [s], by rw [h1]; simp, by simp, rfl⟩
    have hn := congrArg List.length h1
    simp only [List.length_append, List.length_cons] at hn
    cases s <;>
    · try simp only [encS, ↓pC, ↓pOp, ↓pUn, ↓pSl, ↓pPart, ↓pNil, ↓pCons, ↓pTup, ↓pLst, ↓pCallB, ↓pTest, ↓pNot, ↓pAnd, ↓pOr, ↓pAndV, ↓pOrV, ↓pNotV, ↓pIf, ↓pNext, ↓pSeq, ↓pBreak, ↓pCont, ↓pDrop, ↓pRet, ↓pRetN, ↓pIfS, ↓pgNil, ↓pgCons, ↓pgTup, ↓pAsg, ↓pRaise, ↓pCall, ↓pIter, ↓pFor, ↓pLc, ↓pYes, ↓pkOf, ↓pIxK, ↓pTabG, ↓pLenK, ↓pChain, ↓pStore, ↓pAppend, ↓pPop, ↓poLst, ↓poDct, ↓pNewW, ↓pRng1, ↓pRng2, ↓pTry, ↓pTryAs, ↓oEq, ↓oNe, ↓oLen, ↓oSum, ↓oAll, ↓oAny, ↓oIsi, start0, List.map_cons, List.map_nil, List.length_cons, List.length_nil, List.cons_append, List.nil_append, List.getElem?_cons_zero, List.getElem?_cons_succ, List.set_cons_zero, List.set_cons_succ, List.replicate, D.bl.injEq, D.int.injEq, D.str.injEq, D.tup.injEq, D.lst.injEq, exists_eq_left', exists_eq_left, Option.some.injEq, Bool.false_eq_true, if_true, if_false, true_and, and_true, false_and, and_false, isi_int, isi_bool, isi_str, isi_tuple, isi_list, isiT_int, isiT_bool, isiT_str, isiT_tuple, isiT_list, Bool.not_true, Bool.not_false, dat_non, dat_bl, dat_int, dat_str, dat_tup, dat_lst, isInt_non, isInt_bl, isInt_int, isInt_str, isInt_tup, isInt_lst, isBool_non, isBool_bl, isBool_int, isBool_str, isBool_tup, isBool_lst, isStr_non, isStr_bl, isStr_int, isStr_str, isStr_tup, isStr_lst, isTup_non, isTup_bl, isTup_int, isTup_str, isTup_tup, isTup_lst, isLst_non, isLst_bl, isLst_int, isLst_str, isLst_tup, isLst_lst, Nat.reduceAdd, Nat.zero_add, sz_0, sz_1, sz_2, sz_3, sz_4, sz_5, sz_6, sz_7, sz_8, sz_9, sz_10, sz_11, sz_12, List.any_cons, List.any_nil, eqD_tup, eqD_str, eqD_int, eqDs_cons, eqDs_nil, eqDs_cn, eqDs_nc, Bool.or_false, Bool.and_true, at0, at1, at2, at3, at4, good_int, good_bl, good_nil, good_nilL, good_non, eqDs_nil_r, eqDs_nil_l, List.isEmpty_nil, List.isEmpty_cons, Bool.and_false, Bool.or_true, Bool.false_or, Bool.true_or, Bool.false_and, Bool.true_and, encB, wipS_mk, List.foldr_cons, List.foldr_nil, con_updW, ↓ixC_ownD, ↓oIx_tup, ↓oIx_lst, ↓oIx_str, ↓lenC_ownL, ↓lenC_ownD, ↓setC_ownD, putC_adr, Own_lst_inj, Con_own_inj, updW_upd, Nat.reduceSub, Nat.sub_self, ↓itD_lst, ↓itD_tup, ↓oInt_i, ↓oCmp_i, ↓oAdd_i, ↓oAdd_s, ↓oAdd_t, ↓oAdd_l, ↓oNeg_i, ↓o1I_i, ↓o2I_i, ↓oSl_t, ↓oSl_l, ↓oList_t, ↓oList_l, ↓oTuple_t, ↓oTuple_l, ↓oIn_t, ↓oIn_l, ↓oIsN_n, ↓ixC_ownLi, ↓setC_ownLi, ixN20, ixN21, ex_int1, ex_int2, ↓pSet_eq, ↓ixK_tup, ↓ixK_lst, ↓ixK_str, ↓ixK_dct, ↓lenK_tup, ↓lenK_lst, ↓lenK_str, ↓pSetO_eq, ↓pPar_eq, ↓kPar_mk, ↓pGet2, ↓pFrzO_eq, ↓kFrz_lst, ↓kFrz_dct, ↓pPairs_nil, ↓pPairs_cons, ↓poDisp, ↓getC_val, isDc_val, ↓poCat, ↓catD_l, ↓pVarV0, ↓pVarV1, ↓pVarL0, ↓pVarL1, ↓pVarD0, ↓pVarD1, ↓pkVarV0, ↓pkVarV1, ↓pkVarO0, ↓pkVarO1, ↓kSetN0, ↓kSetN1, ↓kSetO_N0, ↓kSetO_N1, ↓pgNameN0, ↓pgNameN1, ↓ixS0, ↓ixS1, ↓lenS0, ↓lenS1, ↓setS0, ↓setS1, ↓conS0, ↓conS1, ↓putS0, ↓putS1]
      exact ⟨by show _ < 2 ^ 24; rw [List.length_map]; omega, fin⟩
abbrev s_with_statement : Stmt := topS 65
abbrev N_with_statement : List Str := ["loop", "statement", "found"]
theorem sc_with_statement : FnScope N_with_statement ["loop", "statement"] (defScope s_with_statement) := ⟨rfl, rfl, rfl, by decide +kernel, rfl, by decide +kernel, by decide +kernel⟩
theorem ok_with_statement  {k : Nat} {C_InvalidStatement : Addr} (T : TopD K mg "with_statement" ["loop", "statement"] s_with_statement) (c_is_loop : CallF P w K mg base "is_loop" 1 k (φ_is_loop)) (x_InvalidStatement : ExC K mg "InvalidStatement" C_InvalidStatement)  :
    CallF P w K mg base "with_statement" 2 (k + 1) (φ_with_statement C_InvalidStatement) := by
  refine call_of (N := N_with_statement) (k := k) T sc_with_statement fun f cdv A outer s H E hr => ⟨_, (pmss_cons (pms_set (i := 2) (fun W t => ps_set (i := 2) sc_with_statement.nd rfl (.inl rfl) ((pm_op od_add (pm_slice sld (pm_var (pv 0)) (.inl ⟨rfl, rfl⟩) (.inr ⟨_, _, rfl, rfl, pm_int⟩)) (pm_tup (pma_cons (pm_op od_add (pm_ixK (Room.hu1 hr) (pk_var (pv 0)) pm_int (fun _ _ => rfl)) (pm_tup (pma_cons (pm_var (pv 1)) pma_nil))) pma_nil))) W t)))
      (pmss_cons (pms_if (pmt_not (pmt_val (pm_callF c_is_loop hr (by rfl) (pma_cons (pm_var (pv 2)) pma_nil)))) (pmss_one (pms_raiseOwn (by rfl) x_InvalidStatement (by rfl))) pmss_nil)
      (pmss_one (pms_ret (pm_var (pv 2)))))), ?_⟩
  rintro ds Wo Q E' - ⟨L, v, rfl, hL, hv, q1, q2⟩
  have l8 := (okB_iff.mp (okL_iff.mp hL).2.1).1
  have e : D.tup (cutD [D.int L.least, D.int L.most, D.int L.first, D.tup (encSs L.body)] none (some 3) ++ [D.tup (encSs L.body ++ [v])]) = addD L v := by
    rw [show (3 : Int) = ((3 : Nat) : Int) from rfl, cut_to _ _ (by simp)]; rfl
  try simp only [encL, ↓pC, ↓pOp, ↓pUn, ↓pSl, ↓pPart, ↓pNil, ↓pCons, ↓pTup, ↓pLst, ↓pCallB, ↓pTest, ↓pNot, ↓pAnd, ↓pOr, ↓pAndV, ↓pOrV, ↓pNotV, ↓pIf, ↓pNext, ↓pSeq, ↓pBreak, ↓pCont, ↓pDrop, ↓pRet, ↓pRetN, ↓pIfS, ↓pgNil, ↓pgCons, ↓pgTup, ↓pAsg, ↓pRaise, ↓pCall, ↓pIter, ↓pFor, ↓pLc, ↓pYes, ↓pkOf, ↓pIxK, ↓pTabG, ↓pLenK, ↓pChain, ↓pStore, ↓pAppend, ↓pPop, ↓poLst, ↓poDct, ↓pNewW, ↓pRng1, ↓pRng2, ↓pTry, ↓pTryAs, ↓oEq, ↓oNe, ↓oLen, ↓oSum, ↓oAll, ↓oAny, ↓oIsi, start0, List.map_cons, List.map_nil, List.length_cons, List.length_nil, List.cons_append, List.nil_append, List.getElem?_cons_zero, List.getElem?_cons_succ, List.set_cons_zero, List.set_cons_succ, List.replicate, D.bl.injEq, D.int.injEq, D.str.injEq, D.tup.injEq, D.lst.injEq, exists_eq_left', exists_eq_left, Option.some.injEq, Bool.false_eq_true, if_true, if_false, true_and, and_true, false_and, and_false, isi_int, isi_bool, isi_str, isi_tuple, isi_list, isiT_int, isiT_bool, isiT_str, isiT_tuple, isiT_list, Bool.not_true, Bool.not_false, dat_non, dat_bl, dat_int, dat_str, dat_tup, dat_lst, isInt_non, isInt_bl, isInt_int, isInt_str, isInt_tup, isInt_lst, isBool_non, isBool_bl, isBool_int, isBool_str, isBool_tup, isBool_lst, isStr_non, isStr_bl, isStr_int, isStr_str, isStr_tup, isStr_lst, isTup_non, isTup_bl, isTup_int, isTup_str, isTup_tup, isTup_lst, isLst_non, isLst_bl, isLst_int, isLst_str, isLst_tup, isLst_lst, Nat.reduceAdd, Nat.zero_add, sz_0, sz_1, sz_2, sz_3, sz_4, sz_5, sz_6, sz_7, sz_8, sz_9, sz_10, sz_11, sz_12, List.any_cons, List.any_nil, eqD_tup, eqD_str, eqD_int, eqDs_cons, eqDs_nil, eqDs_cn, eqDs_nc, Bool.or_false, Bool.and_true, at0, at1, at2, at3, at4, good_int, good_bl, good_nil, good_nilL, good_non, eqDs_nil_r, eqDs_nil_l, List.isEmpty_nil, List.isEmpty_cons, Bool.and_false, Bool.or_true, Bool.false_or, Bool.true_or, Bool.false_and, Bool.true_and, encB, wipS_mk, List.foldr_cons, List.foldr_nil, con_updW, ↓ixC_ownD, ↓oIx_tup, ↓oIx_lst, ↓oIx_str, ↓lenC_ownL, ↓lenC_ownD, ↓setC_ownD, putC_adr, Own_lst_inj, Con_own_inj, updW_upd, Nat.reduceSub, Nat.sub_self, ↓itD_lst, ↓itD_tup, ↓oInt_i, ↓oCmp_i, ↓oAdd_i, ↓oAdd_s, ↓oAdd_t, ↓oAdd_l, ↓oNeg_i, ↓o1I_i, ↓o2I_i, ↓oSl_t, ↓oSl_l, ↓oList_t, ↓oList_l, ↓oTuple_t, ↓oTuple_l, ↓oIn_t, ↓oIn_l, ↓oIsN_n, ↓ixC_ownLi, ↓setC_ownLi, ixN20, ixN21, ex_int1, ex_int2, ↓pSet_eq, ↓ixK_tup, ↓ixK_lst, ↓ixK_str, ↓ixK_dct, ↓lenK_tup, ↓lenK_lst, ↓lenK_str, ↓pSetO_eq, ↓pPar_eq, ↓kPar_mk, ↓pGet2, ↓pFrzO_eq, ↓kFrz_lst, ↓kFrz_dct, ↓pPairs_nil, ↓pPairs_cons, ↓poDisp, ↓getC_val, isDc_val, ↓poCat, ↓catD_l, ↓pVarV0, ↓pVarV1, ↓pVarV2, ↓pVarL0, ↓pVarL1, ↓pVarL2, ↓pVarD0, ↓pVarD1, ↓pVarD2, ↓pkVarV0, ↓pkVarV1, ↓pkVarV2, ↓pkVarO0, ↓pkVarO1, ↓pkVarO2, ↓kSetN0, ↓kSetN1, ↓kSetN2, ↓kSetO_N0, ↓kSetO_N1, ↓kSetO_N2, ↓pgNameN0, ↓pgNameN1, ↓pgNameN2, ↓ixS0, ↓ixS1, ↓ixS2, ↓lenS0, ↓lenS1, ↓lenS2, ↓setS0, ↓setS1, ↓setS2, ↓conS0, ↓conS1, ↓conS2, ↓putS0, ↓putS1, ↓putS2]
  refine ⟨by show _ ≤ 2 ^ 24; rw [encSs_map, List.length_map]; omega, by show _ ≤ 2 ^ 24; simp [cutD, HT.sIx] <;> omega, addD L v, by rw [e], small_good hL hv, _, rfl, ?_⟩
  cases h : isLoop (addD L v) with
  | true => rw [e]; exact q1 h
  | false => exact q2 h
abbrev s_less_number : Stmt := topS 66
abbrev N_less_number : List Str := ["loop", "number"]
theorem sc_less_number : FnScope N_less_number ["loop", "number"] (defScope s_less_number) := ⟨rfl, rfl, rfl, by decide +kernel, rfl, by decide +kernel, by decide +kernel⟩
theorem ok_less_number {C_InvalidNumber : Addr} {k : Nat}  (T : TopD K mg "less_number" ["loop", "number"] s_less_number) (c_less_one : CallF P w K mg base "less_one" 2 k (φ_less_one)) (c_need_statement_number : CallF P w K mg base "need_statement_number" 2 k (φ_need_statement_number C_InvalidNumber))  :
    CallF P w K mg base "less_number" 2 (k + 1) (φ_less_number C_InvalidNumber) := by
  refine call_of (N := N_less_number) (k := k) T sc_less_number fun f cdv A outer s H E hr => ⟨_, (pmss_cons (pms_expr (pm_callF c_need_statement_number hr (by rfl) (pma_cons (pm_var (pv 0)) (pma_cons (pm_var (pv 1)) pma_nil))))
      (pmss_one (pms_ret (pm_callF c_less_one hr (by rfl) (pma_cons (pm_var (pv 0)) (pma_cons (pm_var (pv 1)) pma_nil)))))), ?_⟩
  rintro ds Wo Q E' - ⟨L, v, rfl, hL, hv, q1, q2⟩
  walk_at "pls"
  refine ⟨L, v, rfl, hL, hv, fun h => ?_, q1⟩
  obtain ⟨k, hi, rfl⟩ := isNum_iff.mp h
  exact ⟨L, k, rfl, hL, q2 k rfl hi⟩
abbrev s_with_most : Stmt := topS 67
abbrev N_with_most : List Str := ["loop", "most", "found"]
theorem sc_with_most : FnScope N_with_most ["loop", "most"] (defScope s_with_most) := ⟨rfl, rfl, rfl, by decide +kernel, rfl, by decide +kernel, by decide +kernel⟩
theorem ok_with_most  {k : Nat} {C_InvalidLoop : Addr} (T : TopD K mg "with_most" ["loop", "most"] s_with_most) (c_is_loop : CallF P w K mg base "is_loop" 1 k (φ_is_loop)) (x_InvalidLoop : ExC K mg "InvalidLoop" C_InvalidLoop)  :
    CallF P w K mg base "with_most" 2 (k + 1) (φ_with_most C_InvalidLoop) := by
  refine call_of (N := N_with_most) (k := k) T sc_with_most fun f cdv A outer s H E hr => ⟨_, (pmss_cons (pms_set (i := 2) (fun W t => ps_set (i := 2) sc_with_most.nd rfl (.inl rfl) ((pm_op od_add (pm_tup (pma_cons (pm_ixK (Room.hu1 hr) (pk_var (pv 0)) pm_int (fun _ _ => rfl)) (pma_cons (pm_var (pv 1)) pma_nil))) (pm_slice sld (pm_var (pv 0)) (.inr ⟨_, _, rfl, rfl, pm_int⟩) (.inl ⟨rfl, rfl⟩))) W t)))
      (pmss_cons (pms_if (pmt_not (pmt_val (pm_callF c_is_loop hr (by rfl) (pma_cons (pm_var (pv 2)) pma_nil)))) (pmss_one (pms_raiseOwn (by rfl) x_InvalidLoop (by rfl))) pmss_nil)
      (pmss_one (pms_ret (pm_var (pv 2)))))), ?_⟩
  rintro ds Wo Q E' - ⟨L, v, rfl, hL, hv, q1, q2⟩
  have e : D.tup (D.int L.least :: v :: cutD [D.int L.least, D.int L.most, D.int L.first, D.tup (encSs L.body)] (some 2) none) = mostD L v := by
    rw [show (2 : Int) = ((2 : Nat) : Int) from rfl, cut_from _ _ (by simp)]; rfl
  try simp only [encL, ↓pC, ↓pOp, ↓pUn, ↓pSl, ↓pPart, ↓pNil, ↓pCons, ↓pTup, ↓pLst, ↓pCallB, ↓pTest, ↓pNot, ↓pAnd, ↓pOr, ↓pAndV, ↓pOrV, ↓pNotV, ↓pIf, ↓pNext, ↓pSeq, ↓pBreak, ↓pCont, ↓pDrop, ↓pRet, ↓pRetN, ↓pIfS, ↓pgNil, ↓pgCons, ↓pgTup, ↓pAsg, ↓pRaise, ↓pCall, ↓pIter, ↓pFor, ↓pLc, ↓pYes, ↓pkOf, ↓pIxK, ↓pTabG, ↓pLenK, ↓pChain, ↓pStore, ↓pAppend, ↓pPop, ↓poLst, ↓poDct, ↓pNewW, ↓pRng1, ↓pRng2, ↓pTry, ↓pTryAs, ↓oEq, ↓oNe, ↓oLen, ↓oSum, ↓oAll, ↓oAny, ↓oIsi, start0, List.map_cons, List.map_nil, List.length_cons, List.length_nil, List.cons_append, List.nil_append, List.getElem?_cons_zero, List.getElem?_cons_succ, List.set_cons_zero, List.set_cons_succ, List.replicate, D.bl.injEq, D.int.injEq, D.str.injEq, D.tup.injEq, D.lst.injEq, exists_eq_left', exists_eq_left, Option.some.injEq, Bool.false_eq_true, if_true, if_false, true_and, and_true, false_and, and_false, isi_int, isi_bool, isi_str, isi_tuple, isi_list, isiT_int, isiT_bool, isiT_str, isiT_tuple, isiT_list, Bool.not_true, Bool.not_false, dat_non, dat_bl, dat_int, dat_str, dat_tup, dat_lst, isInt_non, isInt_bl, isInt_int, isInt_str, isInt_tup, isInt_lst, isBool_non, isBool_bl, isBool_int, isBool_str, isBool_tup, isBool_lst, isStr_non, isStr_bl, isStr_int, isStr_str, isStr_tup, isStr_lst, isTup_non, isTup_bl, isTup_int, isTup_str, isTup_tup, isTup_lst, isLst_non, isLst_bl, isLst_int, isLst_str, isLst_tup, isLst_lst, Nat.reduceAdd, Nat.zero_add, sz_0, sz_1, sz_2, sz_3, sz_4, sz_5, sz_6, sz_7, sz_8, sz_9, sz_10, sz_11, sz_12, List.any_cons, List.any_nil, eqD_tup, eqD_str, eqD_int, eqDs_cons, eqDs_nil, eqDs_cn, eqDs_nc, Bool.or_false, Bool.and_true, at0, at1, at2, at3, at4, good_int, good_bl, good_nil, good_nilL, good_non, eqDs_nil_r, eqDs_nil_l, List.isEmpty_nil, List.isEmpty_cons, Bool.and_false, Bool.or_true, Bool.false_or, Bool.true_or, Bool.false_and, Bool.true_and, encB, wipS_mk, List.foldr_cons, List.foldr_nil, con_updW, ↓ixC_ownD, ↓oIx_tup, ↓oIx_lst, ↓oIx_str, ↓lenC_ownL, ↓lenC_ownD, ↓setC_ownD, putC_adr, Own_lst_inj, Con_own_inj, updW_upd, Nat.reduceSub, Nat.sub_self, ↓itD_lst, ↓itD_tup, ↓oInt_i, ↓oCmp_i, ↓oAdd_i, ↓oAdd_s, ↓oAdd_t, ↓oAdd_l, ↓oNeg_i, ↓o1I_i, ↓o2I_i, ↓oSl_t, ↓oSl_l, ↓oList_t, ↓oList_l, ↓oTuple_t, ↓oTuple_l, ↓oIn_t, ↓oIn_l, ↓oIsN_n, ↓ixC_ownLi, ↓setC_ownLi, ixN20, ixN21, ex_int1, ex_int2, ↓pSet_eq, ↓ixK_tup, ↓ixK_lst, ↓ixK_str, ↓ixK_dct, ↓lenK_tup, ↓lenK_lst, ↓lenK_str, ↓pSetO_eq, ↓pPar_eq, ↓kPar_mk, ↓pGet2, ↓pFrzO_eq, ↓kFrz_lst, ↓kFrz_dct, ↓pPairs_nil, ↓pPairs_cons, ↓poDisp, ↓getC_val, isDc_val, ↓poCat, ↓catD_l, ↓pVarV0, ↓pVarV1, ↓pVarV2, ↓pVarL0, ↓pVarL1, ↓pVarL2, ↓pVarD0, ↓pVarD1, ↓pVarD2, ↓pkVarV0, ↓pkVarV1, ↓pkVarV2, ↓pkVarO0, ↓pkVarO1, ↓pkVarO2, ↓kSetN0, ↓kSetN1, ↓kSetN2, ↓kSetO_N0, ↓kSetO_N1, ↓kSetO_N2, ↓pgNameN0, ↓pgNameN1, ↓pgNameN2, ↓ixS0, ↓ixS1, ↓ixS2, ↓lenS0, ↓lenS1, ↓lenS2, ↓setS0, ↓setS1, ↓setS2, ↓conS0, ↓conS1, ↓conS2, ↓putS0, ↓putS1, ↓putS2]
  refine ⟨by show _ ≤ 2 ^ 24; simp [cutD, HT.sIx] <;> omega, mostD L v, by rw [e], most_good hL hv, _, rfl, ?_⟩
  cases h : isLoop (mostD L v) with
  | true => rw [e]; exact q1 h
  | false => exact q2 h
abbrev s_Loop_init : Stmt := inClass (topS 69) 1
abbrev N_Loop_init : List Str := ["self", "least", "most", "first", "body"]
theorem sc_Loop_init : FnScope N_Loop_init ((["self", "least", "most", "first"] : List Str) ++ (["body"] : List Str)) (defScope s_Loop_init) := ⟨rfl, rfl, rfl, by decide +kernel, rfl, by decide +kernel, by decide +kernel⟩
theorem ok_Loop_init  {k : Nat} {C_InvalidLoop : Addr} {C_Loop : Addr} {g : Addr} {fd : FuncData} (F : Fun K "__init__" "Loop.__init__" s_Loop_init g fd) (n_Loop_base : NoAttr K C_Loop "base") (i_Loop : InC K C_Loop) (c_is_loop : CallF P w K mg base "is_loop" 1 k (φ_is_loop)) (x_InvalidLoop : ExC K mg "InvalidLoop" C_InvalidLoop)  :
    FnR P w K mg base (L2.CX P w) (k + 1) g (spL K (φStar (φ_Loop_init C_Loop))) := by
  refine init_of (N := N_Loop_init) (k := k) F sc_Loop_init (fun _ _ _ _ _ _ us rest hl => match us, rest, hl with | [_, _, _, _], [], _ => rfl | [_, _, _, _], _ :: _, _ => rfl) fun cdv A outer s H E hr => ⟨_, (pmss_cons (pms_if (pmt_not (pmt_val (pm_callF c_is_loop hr (by rfl) (pma_cons (pm_tup (pma_cons (pm_var (pv 1)) (pma_cons (pm_var (pv 2)) (pma_cons (pm_var (pv 3)) (pma_cons (pm_var (pv 4)) pma_nil))))) pma_nil)))) (pmss_one (pms_raiseOwn (by rfl) x_InvalidLoop (by rfl))) pmss_nil)
      (pmss_one (pms_storeF i_Loop.cl n_Loop_base (pm_tup (pma_cons (pm_var (pv 1)) (pma_cons (pm_var (pv 2)) (pma_cons (pm_var (pv 3)) (pma_cons (pm_var (pv 4)) pma_nil))))) (pm_var (pv 0))))), ?_⟩
  rintro ds Wo Q E' - ⟨p, L, rfl, hL, hw, q⟩
  walk_at "pls"
  refine ⟨encL L, rfl, good_L hL, _, rfl, ?_⟩
  rw [isLoop_iff.mpr ⟨L, hL, rfl⟩]
  try simp only [↓pStoreF, ↓insW_mk hw, len_n, putN_nil, ↓pC, ↓pOp, ↓pUn, ↓pSl, ↓pPart, ↓pNil, ↓pCons, ↓pTup, ↓pLst, ↓pCallB, ↓pTest, ↓pNot, ↓pAnd, ↓pOr, ↓pAndV, ↓pOrV, ↓pNotV, ↓pIf, ↓pNext, ↓pSeq, ↓pBreak, ↓pCont, ↓pDrop, ↓pRet, ↓pRetN, ↓pIfS, ↓pgNil, ↓pgCons, ↓pgTup, ↓pAsg, ↓pRaise, ↓pCall, ↓pIter, ↓pFor, ↓pLc, ↓pYes, ↓pkOf, ↓pIxK, ↓pTabG, ↓pLenK, ↓pChain, ↓pStore, ↓pAppend, ↓pPop, ↓poLst, ↓poDct, ↓pNewW, ↓pRng1, ↓pRng2, ↓pTry, ↓pTryAs, ↓oEq, ↓oNe, ↓oLen, ↓oSum, ↓oAll, ↓oAny, ↓oIsi, start0, List.map_cons, List.map_nil, List.length_cons, List.length_nil, List.cons_append, List.nil_append, List.getElem?_cons_zero, List.getElem?_cons_succ, List.set_cons_zero, List.set_cons_succ, List.replicate, D.bl.injEq, D.int.injEq, D.str.injEq, D.tup.injEq, D.lst.injEq, exists_eq_left', exists_eq_left, Option.some.injEq, Bool.false_eq_true, if_true, if_false, true_and, and_true, false_and, and_false, isi_int, isi_bool, isi_str, isi_tuple, isi_list, isiT_int, isiT_bool, isiT_str, isiT_tuple, isiT_list, Bool.not_true, Bool.not_false, dat_non, dat_bl, dat_int, dat_str, dat_tup, dat_lst, isInt_non, isInt_bl, isInt_int, isInt_str, isInt_tup, isInt_lst, isBool_non, isBool_bl, isBool_int, isBool_str, isBool_tup, isBool_lst, isStr_non, isStr_bl, isStr_int, isStr_str, isStr_tup, isStr_lst, isTup_non, isTup_bl, isTup_int, isTup_str, isTup_tup, isTup_lst, isLst_non, isLst_bl, isLst_int, isLst_str, isLst_tup, isLst_lst, Nat.reduceAdd, Nat.zero_add, sz_0, sz_1, sz_2, sz_3, sz_4, sz_5, sz_6, sz_7, sz_8, sz_9, sz_10, sz_11, sz_12, List.any_cons, List.any_nil, eqD_tup, eqD_str, eqD_int, eqDs_cons, eqDs_nil, eqDs_cn, eqDs_nc, Bool.or_false, Bool.and_true, at0, at1, at2, at3, at4, good_int, good_bl, good_nil, good_nilL, good_non, eqDs_nil_r, eqDs_nil_l, List.isEmpty_nil, List.isEmpty_cons, Bool.and_false, Bool.or_true, Bool.false_or, Bool.true_or, Bool.false_and, Bool.true_and, encB, wipS_mk, List.foldr_cons, List.foldr_nil, con_updW, ↓ixC_ownD, ↓oIx_tup, ↓oIx_lst, ↓oIx_str, ↓lenC_ownL, ↓lenC_ownD, ↓setC_ownD, putC_adr, Own_lst_inj, Con_own_inj, updW_upd, Nat.reduceSub, Nat.sub_self, ↓itD_lst, ↓itD_tup, ↓oInt_i, ↓oCmp_i, ↓oAdd_i, ↓oAdd_s, ↓oAdd_t, ↓oAdd_l, ↓oNeg_i, ↓o1I_i, ↓o2I_i, ↓oSl_t, ↓oSl_l, ↓oList_t, ↓oList_l, ↓oTuple_t, ↓oTuple_l, ↓oIn_t, ↓oIn_l, ↓oIsN_n, ↓ixC_ownLi, ↓setC_ownLi, ixN20, ixN21, ex_int1, ex_int2, ↓pSet_eq, ↓ixK_tup, ↓ixK_lst, ↓ixK_str, ↓ixK_dct, ↓lenK_tup, ↓lenK_lst, ↓lenK_str, ↓pSetO_eq, ↓pPar_eq, ↓kPar_mk, ↓pGet2, ↓pFrzO_eq, ↓kFrz_lst, ↓kFrz_dct, ↓pPairs_nil, ↓pPairs_cons, ↓poDisp, ↓getC_val, isDc_val, ↓poCat, ↓catD_l, ↓pVarV0, ↓pVarV1, ↓pVarV2, ↓pVarV3, ↓pVarV4, ↓pVarL0, ↓pVarL1, ↓pVarL2, ↓pVarL3, ↓pVarL4, ↓pVarD0, ↓pVarD1, ↓pVarD2, ↓pVarD3, ↓pVarD4, ↓pkVarV0, ↓pkVarV1, ↓pkVarV2, ↓pkVarV3, ↓pkVarV4, ↓pkVarO0, ↓pkVarO1, ↓pkVarO2, ↓pkVarO3, ↓pkVarO4, ↓kSetN0, ↓kSetN1, ↓kSetN2, ↓kSetN3, ↓kSetN4, ↓kSetO_N0, ↓kSetO_N1, ↓kSetO_N2, ↓kSetO_N3, ↓kSetO_N4, ↓pgNameN0, ↓pgNameN1, ↓pgNameN2, ↓pgNameN3, ↓pgNameN4, ↓ixS0, ↓ixS1, ↓ixS2, ↓ixS3, ↓ixS4, ↓lenS0, ↓lenS1, ↓lenS2, ↓lenS3, ↓lenS4, ↓setS0, ↓setS1, ↓setS2, ↓setS3, ↓setS4, ↓conS0, ↓conS1, ↓conS2, ↓conS3, ↓conS4, ↓putS0, ↓putS1, ↓putS2, ↓putS3, ↓putS4]
  exact ⟨by decide, q⟩
abbrev s_Loop_source : Stmt := inClass (topS 69) 3
abbrev N_Loop_source : List Str := ["self"]
theorem sc_Loop_source : FnScope N_Loop_source ["self"] (defScope s_Loop_source) := ⟨rfl, rfl, rfl, by decide +kernel, rfl, by decide +kernel, by decide +kernel⟩
theorem ok_Loop_source  {k : Nat} {C_Loop : Addr} {g : Addr} {fd : FuncData} (F : Fun K "source" "Loop.source" s_Loop_source g fd) (n_Loop_base : NoAttr K C_Loop "base") (i_Loop : InC K C_Loop)  :
    FnR P w K mg base (L2.CX P w) (k + 1) g (spP K 1 (φ_Loop_source C_Loop)) := by
  refine fnr_of (ok_of (N := N_Loop_source) (k := k) F sc_Loop_source fun cdv A outer s H E hr => ⟨_, (pmss_one (pms_ret (pm_fld i_Loop.cl n_Loop_base (pm_var (pv 0))))), ?_⟩) (F.binds (ps := ["self"]) fun _ _ _ _ _ _ us hl => match us, hl with | [_], _ => rfl)
  rintro ds Wo Q E' - ⟨p, L, rfl, hw, q⟩
  try simp only [↓pFld, ↓insW_val hw, getN_base, ↓pC, ↓pOp, ↓pUn, ↓pSl, ↓pPart, ↓pNil, ↓pCons, ↓pTup, ↓pLst, ↓pCallB, ↓pTest, ↓pNot, ↓pAnd, ↓pOr, ↓pAndV, ↓pOrV, ↓pNotV, ↓pIf, ↓pNext, ↓pSeq, ↓pBreak, ↓pCont, ↓pDrop, ↓pRet, ↓pRetN, ↓pIfS, ↓pgNil, ↓pgCons, ↓pgTup, ↓pAsg, ↓pRaise, ↓pCall, ↓pIter, ↓pFor, ↓pLc, ↓pYes, ↓pkOf, ↓pIxK, ↓pTabG, ↓pLenK, ↓pChain, ↓pStore, ↓pAppend, ↓pPop, ↓poLst, ↓poDct, ↓pNewW, ↓pRng1, ↓pRng2, ↓pTry, ↓pTryAs, ↓oEq, ↓oNe, ↓oLen, ↓oSum, ↓oAll, ↓oAny, ↓oIsi, start0, List.map_cons, List.map_nil, List.length_cons, List.length_nil, List.cons_append, List.nil_append, List.getElem?_cons_zero, List.getElem?_cons_succ, List.set_cons_zero, List.set_cons_succ, List.replicate, D.bl.injEq, D.int.injEq, D.str.injEq, D.tup.injEq, D.lst.injEq, exists_eq_left', exists_eq_left, Option.some.injEq, Bool.false_eq_true, if_true, if_false, true_and, and_true, false_and, and_false, isi_int, isi_bool, isi_str, isi_tuple, isi_list, isiT_int, isiT_bool, isiT_str, isiT_tuple, isiT_list, Bool.not_true, Bool.not_false, dat_non, dat_bl, dat_int, dat_str, dat_tup, dat_lst, isInt_non, isInt_bl, isInt_int, isInt_str, isInt_tup, isInt_lst, isBool_non, isBool_bl, isBool_int, isBool_str, isBool_tup, isBool_lst, isStr_non, isStr_bl, isStr_int, isStr_str, isStr_tup, isStr_lst, isTup_non, isTup_bl, isTup_int, isTup_str, isTup_tup, isTup_lst, isLst_non, isLst_bl, isLst_int, isLst_str, isLst_tup, isLst_lst, Nat.reduceAdd, Nat.zero_add, sz_0, sz_1, sz_2, sz_3, sz_4, sz_5, sz_6, sz_7, sz_8, sz_9, sz_10, sz_11, sz_12, List.any_cons, List.any_nil, eqD_tup, eqD_str, eqD_int, eqDs_cons, eqDs_nil, eqDs_cn, eqDs_nc, Bool.or_false, Bool.and_true, at0, at1, at2, at3, at4, good_int, good_bl, good_nil, good_nilL, good_non, eqDs_nil_r, eqDs_nil_l, List.isEmpty_nil, List.isEmpty_cons, Bool.and_false, Bool.or_true, Bool.false_or, Bool.true_or, Bool.false_and, Bool.true_and, encB, wipS_mk, List.foldr_cons, List.foldr_nil, con_updW, ↓ixC_ownD, ↓oIx_tup, ↓oIx_lst, ↓oIx_str, ↓lenC_ownL, ↓lenC_ownD, ↓setC_ownD, putC_adr, Own_lst_inj, Con_own_inj, updW_upd, Nat.reduceSub, Nat.sub_self, ↓itD_lst, ↓itD_tup, ↓oInt_i, ↓oCmp_i, ↓oAdd_i, ↓oAdd_s, ↓oAdd_t, ↓oAdd_l, ↓oNeg_i, ↓o1I_i, ↓o2I_i, ↓oSl_t, ↓oSl_l, ↓oList_t, ↓oList_l, ↓oTuple_t, ↓oTuple_l, ↓oIn_t, ↓oIn_l, ↓oIsN_n, ↓ixC_ownLi, ↓setC_ownLi, ixN20, ixN21, ex_int1, ex_int2, ↓pSet_eq, ↓ixK_tup, ↓ixK_lst, ↓ixK_str, ↓ixK_dct, ↓lenK_tup, ↓lenK_lst, ↓lenK_str, ↓pSetO_eq, ↓pPar_eq, ↓kPar_mk, ↓pGet2, ↓pFrzO_eq, ↓kFrz_lst, ↓kFrz_dct, ↓pPairs_nil, ↓pPairs_cons, ↓poDisp, ↓getC_val, isDc_val, ↓poCat, ↓catD_l, ↓pVarV0, ↓pVarL0, ↓pVarD0, ↓pkVarV0, ↓pkVarO0, ↓kSetN0, ↓kSetO_N0, ↓pgNameN0, ↓ixS0, ↓lenS0, ↓setS0, ↓conS0, ↓putS0]
  exact q
abbrev s_Loop_iadd : Stmt := inClass (topS 69) 7
abbrev N_Loop_iadd : List Str := ["self", "statement"]
theorem sc_Loop_iadd : FnScope N_Loop_iadd ["self", "statement"] (defScope s_Loop_iadd) := ⟨rfl, rfl, rfl, by decide +kernel, rfl, by decide +kernel, by decide +kernel⟩
theorem ok_Loop_iadd {C_Loop C_InvalidStatement : Addr} {k : Nat}  {g : Addr} {fd : FuncData} (F : Fun K "__iadd__" "Loop.__iadd__" s_Loop_iadd g fd) (n_Loop_base : NoAttr K C_Loop "base") (i_Loop : InC K C_Loop) (c_with_statement : CallF P w K mg base "with_statement" 2 k (φ_with_statement C_InvalidStatement))  :
    FnR P w K mg base (L2.CX P w) (k + 1) g (spP K 2 (φ_Loop_iadd C_Loop C_InvalidStatement)) := by
  refine fnr_of (ok_of (N := N_Loop_iadd) (k := k) F sc_Loop_iadd fun cdv A outer s H E hr => ⟨_, (pmss_cons (pms_storeF i_Loop.cl n_Loop_base (pm_callF c_with_statement hr (by rfl) (pma_cons (pm_fld i_Loop.cl n_Loop_base (pm_var (pv 0))) (pma_cons (pm_var (pv 1)) pma_nil))) (pm_var (pv 0)))
      (pmss_one (pms_ret (pm_var (pv 0))))), ?_⟩) (F.binds (ps := ["self", "statement"]) fun _ _ _ _ _ _ us hl => match us, hl with | [_, _], _ => rfl)
  rintro ds Wo Q E' - ⟨p, L, v, rfl, hL, hw, hv, q1, q2⟩
  try simp only [↓pStoreF, ↓pFld, ↓insW_val hw, getN_base, ↓pC, ↓pOp, ↓pUn, ↓pSl, ↓pPart, ↓pNil, ↓pCons, ↓pTup, ↓pLst, ↓pCallB, ↓pTest, ↓pNot, ↓pAnd, ↓pOr, ↓pAndV, ↓pOrV, ↓pNotV, ↓pIf, ↓pNext, ↓pSeq, ↓pBreak, ↓pCont, ↓pDrop, ↓pRet, ↓pRetN, ↓pIfS, ↓pgNil, ↓pgCons, ↓pgTup, ↓pAsg, ↓pRaise, ↓pCall, ↓pIter, ↓pFor, ↓pLc, ↓pYes, ↓pkOf, ↓pIxK, ↓pTabG, ↓pLenK, ↓pChain, ↓pStore, ↓pAppend, ↓pPop, ↓poLst, ↓poDct, ↓pNewW, ↓pRng1, ↓pRng2, ↓pTry, ↓pTryAs, ↓oEq, ↓oNe, ↓oLen, ↓oSum, ↓oAll, ↓oAny, ↓oIsi, start0, List.map_cons, List.map_nil, List.length_cons, List.length_nil, List.cons_append, List.nil_append, List.getElem?_cons_zero, List.getElem?_cons_succ, List.set_cons_zero, List.set_cons_succ, List.replicate, D.bl.injEq, D.int.injEq, D.str.injEq, D.tup.injEq, D.lst.injEq, exists_eq_left', exists_eq_left, Option.some.injEq, Bool.false_eq_true, if_true, if_false, true_and, and_true, false_and, and_false, isi_int, isi_bool, isi_str, isi_tuple, isi_list, isiT_int, isiT_bool, isiT_str, isiT_tuple, isiT_list, Bool.not_true, Bool.not_false, dat_non, dat_bl, dat_int, dat_str, dat_tup, dat_lst, isInt_non, isInt_bl, isInt_int, isInt_str, isInt_tup, isInt_lst, isBool_non, isBool_bl, isBool_int, isBool_str, isBool_tup, isBool_lst, isStr_non, isStr_bl, isStr_int, isStr_str, isStr_tup, isStr_lst, isTup_non, isTup_bl, isTup_int, isTup_str, isTup_tup, isTup_lst, isLst_non, isLst_bl, isLst_int, isLst_str, isLst_tup, isLst_lst, Nat.reduceAdd, Nat.zero_add, sz_0, sz_1, sz_2, sz_3, sz_4, sz_5, sz_6, sz_7, sz_8, sz_9, sz_10, sz_11, sz_12, List.any_cons, List.any_nil, eqD_tup, eqD_str, eqD_int, eqDs_cons, eqDs_nil, eqDs_cn, eqDs_nc, Bool.or_false, Bool.and_true, at0, at1, at2, at3, at4, good_int, good_bl, good_nil, good_nilL, good_non, eqDs_nil_r, eqDs_nil_l, List.isEmpty_nil, List.isEmpty_cons, Bool.and_false, Bool.or_true, Bool.false_or, Bool.true_or, Bool.false_and, Bool.true_and, encB, wipS_mk, List.foldr_cons, List.foldr_nil, con_updW, ↓ixC_ownD, ↓oIx_tup, ↓oIx_lst, ↓oIx_str, ↓lenC_ownL, ↓lenC_ownD, ↓setC_ownD, putC_adr, Own_lst_inj, Con_own_inj, updW_upd, Nat.reduceSub, Nat.sub_self, ↓itD_lst, ↓itD_tup, ↓oInt_i, ↓oCmp_i, ↓oAdd_i, ↓oAdd_s, ↓oAdd_t, ↓oAdd_l, ↓oNeg_i, ↓o1I_i, ↓o2I_i, ↓oSl_t, ↓oSl_l, ↓oList_t, ↓oList_l, ↓oTuple_t, ↓oTuple_l, ↓oIn_t, ↓oIn_l, ↓oIsN_n, ↓ixC_ownLi, ↓setC_ownLi, ixN20, ixN21, ex_int1, ex_int2, ↓pSet_eq, ↓ixK_tup, ↓ixK_lst, ↓ixK_str, ↓ixK_dct, ↓lenK_tup, ↓lenK_lst, ↓lenK_str, ↓pSetO_eq, ↓pPar_eq, ↓kPar_mk, ↓pGet2, ↓pFrzO_eq, ↓kFrz_lst, ↓kFrz_dct, ↓pPairs_nil, ↓pPairs_cons, ↓poDisp, ↓getC_val, isDc_val, ↓poCat, ↓catD_l, ↓pVarV0, ↓pVarV1, ↓pVarL0, ↓pVarL1, ↓pVarD0, ↓pVarD1, ↓pkVarV0, ↓pkVarV1, ↓pkVarO0, ↓pkVarO1, ↓kSetN0, ↓kSetN1, ↓kSetO_N0, ↓kSetO_N1, ↓pgNameN0, ↓pgNameN1, ↓ixS0, ↓ixS1, ↓lenS0, ↓lenS1, ↓setS0, ↓setS1, ↓conS0, ↓conS1, ↓putS0, ↓putS1]
  refine ⟨L, v, rfl, hL, hv, fun h => ?_, q2⟩
  obtain ⟨L', hL', e⟩ := isLoop_iff.mp h
  try simp only [↓insW_val hw, len_b, putN_base, ↓pC, ↓pOp, ↓pUn, ↓pSl, ↓pPart, ↓pNil, ↓pCons, ↓pTup, ↓pLst, ↓pCallB, ↓pTest, ↓pNot, ↓pAnd, ↓pOr, ↓pAndV, ↓pOrV, ↓pNotV, ↓pIf, ↓pNext, ↓pSeq, ↓pBreak, ↓pCont, ↓pDrop, ↓pRet, ↓pRetN, ↓pIfS, ↓pgNil, ↓pgCons, ↓pgTup, ↓pAsg, ↓pRaise, ↓pCall, ↓pIter, ↓pFor, ↓pLc, ↓pYes, ↓pkOf, ↓pIxK, ↓pTabG, ↓pLenK, ↓pChain, ↓pStore, ↓pAppend, ↓pPop, ↓poLst, ↓poDct, ↓pNewW, ↓pRng1, ↓pRng2, ↓pTry, ↓pTryAs, ↓oEq, ↓oNe, ↓oLen, ↓oSum, ↓oAll, ↓oAny, ↓oIsi, start0, List.map_cons, List.map_nil, List.length_cons, List.length_nil, List.cons_append, List.nil_append, List.getElem?_cons_zero, List.getElem?_cons_succ, List.set_cons_zero, List.set_cons_succ, List.replicate, D.bl.injEq, D.int.injEq, D.str.injEq, D.tup.injEq, D.lst.injEq, exists_eq_left', exists_eq_left, Option.some.injEq, Bool.false_eq_true, if_true, if_false, true_and, and_true, false_and, and_false, isi_int, isi_bool, isi_str, isi_tuple, isi_list, isiT_int, isiT_bool, isiT_str, isiT_tuple, isiT_list, Bool.not_true, Bool.not_false, dat_non, dat_bl, dat_int, dat_str, dat_tup, dat_lst, isInt_non, isInt_bl, isInt_int, isInt_str, isInt_tup, isInt_lst, isBool_non, isBool_bl, isBool_int, isBool_str, isBool_tup, isBool_lst, isStr_non, isStr_bl, isStr_int, isStr_str, isStr_tup, isStr_lst, isTup_non, isTup_bl, isTup_int, isTup_str, isTup_tup, isTup_lst, isLst_non, isLst_bl, isLst_int, isLst_str, isLst_tup, isLst_lst, Nat.reduceAdd, Nat.zero_add, sz_0, sz_1, sz_2, sz_3, sz_4, sz_5, sz_6, sz_7, sz_8, sz_9, sz_10, sz_11, sz_12, List.any_cons, List.any_nil, eqD_tup, eqD_str, eqD_int, eqDs_cons, eqDs_nil, eqDs_cn, eqDs_nc, Bool.or_false, Bool.and_true, at0, at1, at2, at3, at4, good_int, good_bl, good_nil, good_nilL, good_non, eqDs_nil_r, eqDs_nil_l, List.isEmpty_nil, List.isEmpty_cons, Bool.and_false, Bool.or_true, Bool.false_or, Bool.true_or, Bool.false_and, Bool.true_and, encB, wipS_mk, List.foldr_cons, List.foldr_nil, con_updW, ↓ixC_ownD, ↓oIx_tup, ↓oIx_lst, ↓oIx_str, ↓lenC_ownL, ↓lenC_ownD, ↓setC_ownD, putC_adr, Own_lst_inj, Con_own_inj, updW_upd, Nat.reduceSub, Nat.sub_self, ↓itD_lst, ↓itD_tup, ↓oInt_i, ↓oCmp_i, ↓oAdd_i, ↓oAdd_s, ↓oAdd_t, ↓oAdd_l, ↓oNeg_i, ↓o1I_i, ↓o2I_i, ↓oSl_t, ↓oSl_l, ↓oList_t, ↓oList_l, ↓oTuple_t, ↓oTuple_l, ↓oIn_t, ↓oIn_l, ↓oIsN_n, ↓ixC_ownLi, ↓setC_ownLi, ixN20, ixN21, ex_int1, ex_int2, ↓pSet_eq, ↓ixK_tup, ↓ixK_lst, ↓ixK_str, ↓ixK_dct, ↓lenK_tup, ↓lenK_lst, ↓lenK_str, ↓pSetO_eq, ↓pPar_eq, ↓kPar_mk, ↓pGet2, ↓pFrzO_eq, ↓kFrz_lst, ↓kFrz_dct, ↓pPairs_nil, ↓pPairs_cons, ↓poDisp, ↓getC_val, isDc_val, ↓poCat, ↓catD_l, ↓pVarV0, ↓pVarV1, ↓pVarL0, ↓pVarL1, ↓pVarD0, ↓pVarD1, ↓pkVarV0, ↓pkVarV1, ↓pkVarO0, ↓pkVarO1, ↓kSetN0, ↓kSetN1, ↓kSetO_N0, ↓kSetO_N1, ↓pgNameN0, ↓pgNameN1, ↓ixS0, ↓ixS1, ↓lenS0, ↓lenS1, ↓setS0, ↓setS1, ↓conS0, ↓conS1, ↓putS0, ↓putS1]
  rw [e]
  exact ⟨by decide, q1 L' hL' e.symm⟩
abbrev s_Loop_isub : Stmt := inClass (topS 69) 8
abbrev N_Loop_isub : List Str := ["self", "number"]
theorem sc_Loop_isub : FnScope N_Loop_isub ["self", "number"] (defScope s_Loop_isub) := ⟨rfl, rfl, rfl, by decide +kernel, rfl, by decide +kernel, by decide +kernel⟩
theorem ok_Loop_isub {C_Loop C_InvalidNumber : Addr} {k : Nat}  {g : Addr} {fd : FuncData} (F : Fun K "__isub__" "Loop.__isub__" s_Loop_isub g fd) (n_Loop_base : NoAttr K C_Loop "base") (i_Loop : InC K C_Loop) (c_less_number : CallF P w K mg base "less_number" 2 k (φ_less_number C_InvalidNumber))  :
    FnR P w K mg base (L2.CX P w) (k + 1) g (spP K 2 (φ_Loop_isub C_Loop C_InvalidNumber)) := by
  refine fnr_of (ok_of (N := N_Loop_isub) (k := k) F sc_Loop_isub fun cdv A outer s H E hr => ⟨_, (pmss_cons (pms_storeF i_Loop.cl n_Loop_base (pm_callF c_less_number hr (by rfl) (pma_cons (pm_fld i_Loop.cl n_Loop_base (pm_var (pv 0))) (pma_cons (pm_var (pv 1)) pma_nil))) (pm_var (pv 0)))
      (pmss_one (pms_ret (pm_var (pv 0))))), ?_⟩) (F.binds (ps := ["self", "number"]) fun _ _ _ _ _ _ us hl => match us, hl with | [_, _], _ => rfl)
  rintro ds Wo Q E' - ⟨p, L, v, rfl, hL, hw, hv, q1, q2⟩
  try simp only [↓pStoreF, ↓pFld, ↓insW_val hw, getN_base, ↓pC, ↓pOp, ↓pUn, ↓pSl, ↓pPart, ↓pNil, ↓pCons, ↓pTup, ↓pLst, ↓pCallB, ↓pTest, ↓pNot, ↓pAnd, ↓pOr, ↓pAndV, ↓pOrV, ↓pNotV, ↓pIf, ↓pNext, ↓pSeq, ↓pBreak, ↓pCont, ↓pDrop, ↓pRet, ↓pRetN, ↓pIfS, ↓pgNil, ↓pgCons, ↓pgTup, ↓pAsg, ↓pRaise, ↓pCall, ↓pIter, ↓pFor, ↓pLc, ↓pYes, ↓pkOf, ↓pIxK, ↓pTabG, ↓pLenK, ↓pChain, ↓pStore, ↓pAppend, ↓pPop, ↓poLst, ↓poDct, ↓pNewW, ↓pRng1, ↓pRng2, ↓pTry, ↓pTryAs, ↓oEq, ↓oNe, ↓oLen, ↓oSum, ↓oAll, ↓oAny, ↓oIsi, start0, List.map_cons, List.map_nil, List.length_cons, List.length_nil, List.cons_append, List.nil_append, List.getElem?_cons_zero, List.getElem?_cons_succ, List.set_cons_zero, List.set_cons_succ, List.replicate, D.bl.injEq, D.int.injEq, D.str.injEq, D.tup.injEq, D.lst.injEq, exists_eq_left', exists_eq_left, Option.some.injEq, Bool.false_eq_true, if_true, if_false, true_and, and_true, false_and, and_false, isi_int, isi_bool, isi_str, isi_tuple, isi_list, isiT_int, isiT_bool, isiT_str, isiT_tuple, isiT_list, Bool.not_true, Bool.not_false, dat_non, dat_bl, dat_int, dat_str, dat_tup, dat_lst, isInt_non, isInt_bl, isInt_int, isInt_str, isInt_tup, isInt_lst, isBool_non, isBool_bl, isBool_int, isBool_str, isBool_tup, isBool_lst, isStr_non, isStr_bl, isStr_int, isStr_str, isStr_tup, isStr_lst, isTup_non, isTup_bl, isTup_int, isTup_str, isTup_tup, isTup_lst, isLst_non, isLst_bl, isLst_int, isLst_str, isLst_tup, isLst_lst, Nat.reduceAdd, Nat.zero_add, sz_0, sz_1, sz_2, sz_3, sz_4, sz_5, sz_6, sz_7, sz_8, sz_9, sz_10, sz_11, sz_12, List.any_cons, List.any_nil, eqD_tup, eqD_str, eqD_int, eqDs_cons, eqDs_nil, eqDs_cn, eqDs_nc, Bool.or_false, Bool.and_true, at0, at1, at2, at3, at4, good_int, good_bl, good_nil, good_nilL, good_non, eqDs_nil_r, eqDs_nil_l, List.isEmpty_nil, List.isEmpty_cons, Bool.and_false, Bool.or_true, Bool.false_or, Bool.true_or, Bool.false_and, Bool.true_and, encB, wipS_mk, List.foldr_cons, List.foldr_nil, con_updW, ↓ixC_ownD, ↓oIx_tup, ↓oIx_lst, ↓oIx_str, ↓lenC_ownL, ↓lenC_ownD, ↓setC_ownD, putC_adr, Own_lst_inj, Con_own_inj, updW_upd, Nat.reduceSub, Nat.sub_self, ↓itD_lst, ↓itD_tup, ↓oInt_i, ↓oCmp_i, ↓oAdd_i, ↓oAdd_s, ↓oAdd_t, ↓oAdd_l, ↓oNeg_i, ↓o1I_i, ↓o2I_i, ↓oSl_t, ↓oSl_l, ↓oList_t, ↓oList_l, ↓oTuple_t, ↓oTuple_l, ↓oIn_t, ↓oIn_l, ↓oIsN_n, ↓ixC_ownLi, ↓setC_ownLi, ixN20, ixN21, ex_int1, ex_int2, ↓pSet_eq, ↓ixK_tup, ↓ixK_lst, ↓ixK_str, ↓ixK_dct, ↓lenK_tup, ↓lenK_lst, ↓lenK_str, ↓pSetO_eq, ↓pPar_eq, ↓kPar_mk, ↓pGet2, ↓pFrzO_eq, ↓kFrz_lst, ↓kFrz_dct, ↓pPairs_nil, ↓pPairs_cons, ↓poDisp, ↓getC_val, isDc_val, ↓poCat, ↓catD_l, ↓pVarV0, ↓pVarV1, ↓pVarL0, ↓pVarL1, ↓pVarD0, ↓pVarD1, ↓pkVarV0, ↓pkVarV1, ↓pkVarO0, ↓pkVarO1, ↓kSetN0, ↓kSetN1, ↓kSetO_N0, ↓kSetO_N1, ↓pgNameN0, ↓pgNameN1, ↓ixS0, ↓ixS1, ↓lenS0, ↓lenS1, ↓setS0, ↓setS1, ↓conS0, ↓conS1, ↓putS0, ↓putS1]
  refine ⟨L, v, rfl, hL, hv, q1, fun k hk hi => ?_⟩
  try simp only [↓insW_val hw, len_b, putN_base, ↓pC, ↓pOp, ↓pUn, ↓pSl, ↓pPart, ↓pNil, ↓pCons, ↓pTup, ↓pLst, ↓pCallB, ↓pTest, ↓pNot, ↓pAnd, ↓pOr, ↓pAndV, ↓pOrV, ↓pNotV, ↓pIf, ↓pNext, ↓pSeq, ↓pBreak, ↓pCont, ↓pDrop, ↓pRet, ↓pRetN, ↓pIfS, ↓pgNil, ↓pgCons, ↓pgTup, ↓pAsg, ↓pRaise, ↓pCall, ↓pIter, ↓pFor, ↓pLc, ↓pYes, ↓pkOf, ↓pIxK, ↓pTabG, ↓pLenK, ↓pChain, ↓pStore, ↓pAppend, ↓pPop, ↓poLst, ↓poDct, ↓pNewW, ↓pRng1, ↓pRng2, ↓pTry, ↓pTryAs, ↓oEq, ↓oNe, ↓oLen, ↓oSum, ↓oAll, ↓oAny, ↓oIsi, start0, List.map_cons, List.map_nil, List.length_cons, List.length_nil, List.cons_append, List.nil_append, List.getElem?_cons_zero, List.getElem?_cons_succ, List.set_cons_zero, List.set_cons_succ, List.replicate, D.bl.injEq, D.int.injEq, D.str.injEq, D.tup.injEq, D.lst.injEq, exists_eq_left', exists_eq_left, Option.some.injEq, Bool.false_eq_true, if_true, if_false, true_and, and_true, false_and, and_false, isi_int, isi_bool, isi_str, isi_tuple, isi_list, isiT_int, isiT_bool, isiT_str, isiT_tuple, isiT_list, Bool.not_true, Bool.not_false, dat_non, dat_bl, dat_int, dat_str, dat_tup, dat_lst, isInt_non, isInt_bl, isInt_int, isInt_str, isInt_tup, isInt_lst, isBool_non, isBool_bl, isBool_int, isBool_str, isBool_tup, isBool_lst, isStr_non, isStr_bl, isStr_int, isStr_str, isStr_tup, isStr_lst, isTup_non, isTup_bl, isTup_int, isTup_str, isTup_tup, isTup_lst, isLst_non, isLst_bl, isLst_int, isLst_str, isLst_tup, isLst_lst, Nat.reduceAdd, Nat.zero_add, sz_0, sz_1, sz_2, sz_3, sz_4, sz_5, sz_6, sz_7, sz_8, sz_9, sz_10, sz_11, sz_12, List.any_cons, List.any_nil, eqD_tup, eqD_str, eqD_int, eqDs_cons, eqDs_nil, eqDs_cn, eqDs_nc, Bool.or_false, Bool.and_true, at0, at1, at2, at3, at4, good_int, good_bl, good_nil, good_nilL, good_non, eqDs_nil_r, eqDs_nil_l, List.isEmpty_nil, List.isEmpty_cons, Bool.and_false, Bool.or_true, Bool.false_or, Bool.true_or, Bool.false_and, Bool.true_and, encB, wipS_mk, List.foldr_cons, List.foldr_nil, con_updW, ↓ixC_ownD, ↓oIx_tup, ↓oIx_lst, ↓oIx_str, ↓lenC_ownL, ↓lenC_ownD, ↓setC_ownD, putC_adr, Own_lst_inj, Con_own_inj, updW_upd, Nat.reduceSub, Nat.sub_self, ↓itD_lst, ↓itD_tup, ↓oInt_i, ↓oCmp_i, ↓oAdd_i, ↓oAdd_s, ↓oAdd_t, ↓oAdd_l, ↓oNeg_i, ↓o1I_i, ↓o2I_i, ↓oSl_t, ↓oSl_l, ↓oList_t, ↓oList_l, ↓oTuple_t, ↓oTuple_l, ↓oIn_t, ↓oIn_l, ↓oIsN_n, ↓ixC_ownLi, ↓setC_ownLi, ixN20, ixN21, ex_int1, ex_int2, ↓pSet_eq, ↓ixK_tup, ↓ixK_lst, ↓ixK_str, ↓ixK_dct, ↓lenK_tup, ↓lenK_lst, ↓lenK_str, ↓pSetO_eq, ↓pPar_eq, ↓kPar_mk, ↓pGet2, ↓pFrzO_eq, ↓kFrz_lst, ↓kFrz_dct, ↓pPairs_nil, ↓pPairs_cons, ↓poDisp, ↓getC_val, isDc_val, ↓poCat, ↓catD_l, ↓pVarV0, ↓pVarV1, ↓pVarL0, ↓pVarL1, ↓pVarD0, ↓pVarD1, ↓pkVarV0, ↓pkVarV1, ↓pkVarO0, ↓pkVarO1, ↓kSetN0, ↓kSetN1, ↓kSetO_N0, ↓kSetO_N1, ↓pgNameN0, ↓pgNameN1, ↓ixS0, ↓ixS1, ↓lenS0, ↓lenS1, ↓setS0, ↓setS1, ↓conS0, ↓conS1, ↓putS0, ↓putS1]
  exact ⟨by decide, q2 k hk hi⟩
abbrev s_Loop_imul : Stmt := inClass (topS 69) 9
abbrev N_Loop_imul : List Str := ["self", "most"]
theorem sc_Loop_imul : FnScope N_Loop_imul ["self", "most"] (defScope s_Loop_imul) := ⟨rfl, rfl, rfl, by decide +kernel, rfl, by decide +kernel, by decide +kernel⟩
theorem ok_Loop_imul {C_Loop C_InvalidLoop : Addr} {k : Nat}  {g : Addr} {fd : FuncData} (F : Fun K "__imul__" "Loop.__imul__" s_Loop_imul g fd) (n_Loop_base : NoAttr K C_Loop "base") (i_Loop : InC K C_Loop) (c_with_most : CallF P w K mg base "with_most" 2 k (φ_with_most C_InvalidLoop))  :
    FnR P w K mg base (L2.CX P w) (k + 1) g (spP K 2 (φ_Loop_imul C_Loop C_InvalidLoop)) := by
  refine fnr_of (ok_of (N := N_Loop_imul) (k := k) F sc_Loop_imul fun cdv A outer s H E hr => ⟨_, (pmss_cons (pms_storeF i_Loop.cl n_Loop_base (pm_callF c_with_most hr (by rfl) (pma_cons (pm_fld i_Loop.cl n_Loop_base (pm_var (pv 0))) (pma_cons (pm_var (pv 1)) pma_nil))) (pm_var (pv 0)))
      (pmss_one (pms_ret (pm_var (pv 0))))), ?_⟩) (F.binds (ps := ["self", "most"]) fun _ _ _ _ _ _ us hl => match us, hl with | [_, _], _ => rfl)
  rintro ds Wo Q E' - ⟨p, L, v, rfl, hL, hw, hv, q1, q2⟩
  try simp only [↓pStoreF, ↓pFld, ↓insW_val hw, getN_base, ↓pC, ↓pOp, ↓pUn, ↓pSl, ↓pPart, ↓pNil, ↓pCons, ↓pTup, ↓pLst, ↓pCallB, ↓pTest, ↓pNot, ↓pAnd, ↓pOr, ↓pAndV, ↓pOrV, ↓pNotV, ↓pIf, ↓pNext, ↓pSeq, ↓pBreak, ↓pCont, ↓pDrop, ↓pRet, ↓pRetN, ↓pIfS, ↓pgNil, ↓pgCons, ↓pgTup, ↓pAsg, ↓pRaise, ↓pCall, ↓pIter, ↓pFor, ↓pLc, ↓pYes, ↓pkOf, ↓pIxK, ↓pTabG, ↓pLenK, ↓pChain, ↓pStore, ↓pAppend, ↓pPop, ↓poLst, ↓poDct, ↓pNewW, ↓pRng1, ↓pRng2, ↓pTry, ↓pTryAs, ↓oEq, ↓oNe, ↓oLen, ↓oSum, ↓oAll, ↓oAny, ↓oIsi, start0, List.map_cons, List.map_nil, List.length_cons, List.length_nil, List.cons_append, List.nil_append, List.getElem?_cons_zero, List.getElem?_cons_succ, List.set_cons_zero, List.set_cons_succ, List.replicate, D.bl.injEq, D.int.injEq, D.str.injEq, D.tup.injEq, D.lst.injEq, exists_eq_left', exists_eq_left, Option.some.injEq, Bool.false_eq_true, if_true, if_false, true_and, and_true, false_and, and_false, isi_int, isi_bool, isi_str, isi_tuple, isi_list, isiT_int, isiT_bool, isiT_str, isiT_tuple, isiT_list, Bool.not_true, Bool.not_false, dat_non, dat_bl, dat_int, dat_str, dat_tup, dat_lst, isInt_non, isInt_bl, isInt_int, isInt_str, isInt_tup, isInt_lst, isBool_non, isBool_bl, isBool_int, isBool_str, isBool_tup, isBool_lst, isStr_non, isStr_bl, isStr_int, isStr_str, isStr_tup, isStr_lst, isTup_non, isTup_bl, isTup_int, isTup_str, isTup_tup, isTup_lst, isLst_non, isLst_bl, isLst_int, isLst_str, isLst_tup, isLst_lst, Nat.reduceAdd, Nat.zero_add, sz_0, sz_1, sz_2, sz_3, sz_4, sz_5, sz_6, sz_7, sz_8, sz_9, sz_10, sz_11, sz_12, List.any_cons, List.any_nil, eqD_tup, eqD_str, eqD_int, eqDs_cons, eqDs_nil, eqDs_cn, eqDs_nc, Bool.or_false, Bool.and_true, at0, at1, at2, at3, at4, good_int, good_bl, good_nil, good_nilL, good_non, eqDs_nil_r, eqDs_nil_l, List.isEmpty_nil, List.isEmpty_cons, Bool.and_false, Bool.or_true, Bool.false_or, Bool.true_or, Bool.false_and, Bool.true_and, encB, wipS_mk, List.foldr_cons, List.foldr_nil, con_updW, ↓ixC_ownD, ↓oIx_tup, ↓oIx_lst, ↓oIx_str, ↓lenC_ownL, ↓lenC_ownD, ↓setC_ownD, putC_adr, Own_lst_inj, Con_own_inj, updW_upd, Nat.reduceSub, Nat.sub_self, ↓itD_lst, ↓itD_tup, ↓oInt_i, ↓oCmp_i, ↓oAdd_i, ↓oAdd_s, ↓oAdd_t, ↓oAdd_l, ↓oNeg_i, ↓o1I_i, ↓o2I_i, ↓oSl_t, ↓oSl_l, ↓oList_t, ↓oList_l, ↓oTuple_t, ↓oTuple_l, ↓oIn_t, ↓oIn_l, ↓oIsN_n, ↓ixC_ownLi, ↓setC_ownLi, ixN20, ixN21, ex_int1, ex_int2, ↓pSet_eq, ↓ixK_tup, ↓ixK_lst, ↓ixK_str, ↓ixK_dct, ↓lenK_tup, ↓lenK_lst, ↓lenK_str, ↓pSetO_eq, ↓pPar_eq, ↓kPar_mk, ↓pGet2, ↓pFrzO_eq, ↓kFrz_lst, ↓kFrz_dct, ↓pPairs_nil, ↓pPairs_cons, ↓poDisp, ↓getC_val, isDc_val, ↓poCat, ↓catD_l, ↓pVarV0, ↓pVarV1, ↓pVarL0, ↓pVarL1, ↓pVarD0, ↓pVarD1, ↓pkVarV0, ↓pkVarV1, ↓pkVarO0, ↓pkVarO1, ↓kSetN0, ↓kSetN1, ↓kSetO_N0, ↓kSetO_N1, ↓pgNameN0, ↓pgNameN1, ↓ixS0, ↓ixS1, ↓lenS0, ↓lenS1, ↓setS0, ↓setS1, ↓conS0, ↓conS1, ↓putS0, ↓putS1]
  refine ⟨L, v, rfl, hL, hv, fun h => ?_, q2⟩
  obtain ⟨L', hL', e⟩ := isLoop_iff.mp h
  try simp only [↓insW_val hw, len_b, putN_base, ↓pC, ↓pOp, ↓pUn, ↓pSl, ↓pPart, ↓pNil, ↓pCons, ↓pTup, ↓pLst, ↓pCallB, ↓pTest, ↓pNot, ↓pAnd, ↓pOr, ↓pAndV, ↓pOrV, ↓pNotV, ↓pIf, ↓pNext, ↓pSeq, ↓pBreak, ↓pCont, ↓pDrop, ↓pRet, ↓pRetN, ↓pIfS, ↓pgNil, ↓pgCons, ↓pgTup, ↓pAsg, ↓pRaise, ↓pCall, ↓pIter, ↓pFor, ↓pLc, ↓pYes, ↓pkOf, ↓pIxK, ↓pTabG, ↓pLenK, ↓pChain, ↓pStore, ↓pAppend, ↓pPop, ↓poLst, ↓poDct, ↓pNewW, ↓pRng1, ↓pRng2, ↓pTry, ↓pTryAs, ↓oEq, ↓oNe, ↓oLen, ↓oSum, ↓oAll, ↓oAny, ↓oIsi, start0, List.map_cons, List.map_nil, List.length_cons, List.length_nil, List.cons_append, List.nil_append, List.getElem?_cons_zero, List.getElem?_cons_succ, List.set_cons_zero, List.set_cons_succ, List.replicate, D.bl.injEq, D.int.injEq, D.str.injEq, D.tup.injEq, D.lst.injEq, exists_eq_left', exists_eq_left, Option.some.injEq, Bool.false_eq_true, if_true, if_false, true_and, and_true, false_and, and_false, isi_int, isi_bool, isi_str, isi_tuple, isi_list, isiT_int, isiT_bool, isiT_str, isiT_tuple, isiT_list, Bool.not_true, Bool.not_false, dat_non, dat_bl, dat_int, dat_str, dat_tup, dat_lst, isInt_non, isInt_bl, isInt_int, isInt_str, isInt_tup, isInt_lst, isBool_non, isBool_bl, isBool_int, isBool_str, isBool_tup, isBool_lst, isStr_non, isStr_bl, isStr_int, isStr_str, isStr_tup, isStr_lst, isTup_non, isTup_bl, isTup_int, isTup_str, isTup_tup, isTup_lst, isLst_non, isLst_bl, isLst_int, isLst_str, isLst_tup, isLst_lst, Nat.reduceAdd, Nat.zero_add, sz_0, sz_1, sz_2, sz_3, sz_4, sz_5, sz_6, sz_7, sz_8, sz_9, sz_10, sz_11, sz_12, List.any_cons, List.any_nil, eqD_tup, eqD_str, eqD_int, eqDs_cons, eqDs_nil, eqDs_cn, eqDs_nc, Bool.or_false, Bool.and_true, at0, at1, at2, at3, at4, good_int, good_bl, good_nil, good_nilL, good_non, eqDs_nil_r, eqDs_nil_l, List.isEmpty_nil, List.isEmpty_cons, Bool.and_false, Bool.or_true, Bool.false_or, Bool.true_or, Bool.false_and, Bool.true_and, encB, wipS_mk, List.foldr_cons, List.foldr_nil, con_updW, ↓ixC_ownD, ↓oIx_tup, ↓oIx_lst, ↓oIx_str, ↓lenC_ownL, ↓lenC_ownD, ↓setC_ownD, putC_adr, Own_lst_inj, Con_own_inj, updW_upd, Nat.reduceSub, Nat.sub_self, ↓itD_lst, ↓itD_tup, ↓oInt_i, ↓oCmp_i, ↓oAdd_i, ↓oAdd_s, ↓oAdd_t, ↓oAdd_l, ↓oNeg_i, ↓o1I_i, ↓o2I_i, ↓oSl_t, ↓oSl_l, ↓oList_t, ↓oList_l, ↓oTuple_t, ↓oTuple_l, ↓oIn_t, ↓oIn_l, ↓oIsN_n, ↓ixC_ownLi, ↓setC_ownLi, ixN20, ixN21, ex_int1, ex_int2, ↓pSet_eq, ↓ixK_tup, ↓ixK_lst, ↓ixK_str, ↓ixK_dct, ↓lenK_tup, ↓lenK_lst, ↓lenK_str, ↓pSetO_eq, ↓pPar_eq, ↓kPar_mk, ↓pGet2, ↓pFrzO_eq, ↓kFrz_lst, ↓kFrz_dct, ↓pPairs_nil, ↓pPairs_cons, ↓poDisp, ↓getC_val, isDc_val, ↓poCat, ↓catD_l, ↓pVarV0, ↓pVarV1, ↓pVarL0, ↓pVarL1, ↓pVarD0, ↓pVarD1, ↓pkVarV0, ↓pkVarV1, ↓pkVarO0, ↓pkVarO1, ↓kSetN0, ↓kSetN1, ↓kSetO_N0, ↓kSetO_N1, ↓pgNameN0, ↓pgNameN1, ↓ixS0, ↓ixS1, ↓lenS0, ↓lenS1, ↓setS0, ↓setS1, ↓conS0, ↓conS1, ↓putS0, ↓putS1]
  rw [e]
  exact ⟨by decide, q1 L' hL' e.symm⟩
abbrev s_Loop_getitem : Stmt := inClass (topS 69) 11
abbrev N_Loop_getitem : List Str := ["self", "number"]
theorem sc_Loop_getitem : FnScope N_Loop_getitem ["self", "number"] (defScope s_Loop_getitem) := ⟨rfl, rfl, rfl, by decide +kernel, rfl, by decide +kernel, by decide +kernel⟩
theorem ok_Loop_getitem {C_Loop C_InvalidNumber : Addr} {k : Nat}  {g : Addr} {fd : FuncData} (F : Fun K "__getitem__" "Loop.__getitem__" s_Loop_getitem g fd) (n_Loop_base : NoAttr K C_Loop "base") (i_Loop : InC K C_Loop) (c_words_of : CallF P w K mg base "words_of" 1 k (φ_words_of)) (c_need_statement_number : CallF P w K mg base "need_statement_number" 2 k (φ_need_statement_number C_InvalidNumber))  :
    FnR P w K mg base (L2.CX P w) (k + 1) g (spP K 2 (φ_Loop_getitem C_Loop C_InvalidNumber)) := by
  refine fnr_of (ok_of (N := N_Loop_getitem) (k := k) F sc_Loop_getitem fun cdv A outer s H E hr => ⟨_, (pmss_cons (pms_expr (pm_callF c_need_statement_number hr (by rfl) (pma_cons (pm_fld i_Loop.cl n_Loop_base (pm_var (pv 0))) (pma_cons (pm_var (pv 1)) pma_nil))))
      (pmss_one (pms_ret (pm_ixK (Room.hu1 hr) (pk_of (pm_callF c_words_of hr (by rfl) (pma_cons (pm_fld i_Loop.cl n_Loop_base (pm_var (pv 0))) pma_nil))) (pm_var (pv 1)) (fun _ _ => rfl))))), ?_⟩) (F.binds (ps := ["self", "number"]) fun _ _ _ _ _ _ us hl => match us, hl with | [_, _], _ => rfl)
  rintro ds Wo Q E' - ⟨p, L, v, rfl, hL, hw, hv, h, q⟩
  try simp only [↓pFld, ↓insW_val hw, getN_base, ↓pC, ↓pOp, ↓pUn, ↓pSl, ↓pPart, ↓pNil, ↓pCons, ↓pTup, ↓pLst, ↓pCallB, ↓pTest, ↓pNot, ↓pAnd, ↓pOr, ↓pAndV, ↓pOrV, ↓pNotV, ↓pIf, ↓pNext, ↓pSeq, ↓pBreak, ↓pCont, ↓pDrop, ↓pRet, ↓pRetN, ↓pIfS, ↓pgNil, ↓pgCons, ↓pgTup, ↓pAsg, ↓pRaise, ↓pCall, ↓pIter, ↓pFor, ↓pLc, ↓pYes, ↓pkOf, ↓pIxK, ↓pTabG, ↓pLenK, ↓pChain, ↓pStore, ↓pAppend, ↓pPop, ↓poLst, ↓poDct, ↓pNewW, ↓pRng1, ↓pRng2, ↓pTry, ↓pTryAs, ↓oEq, ↓oNe, ↓oLen, ↓oSum, ↓oAll, ↓oAny, ↓oIsi, start0, List.map_cons, List.map_nil, List.length_cons, List.length_nil, List.cons_append, List.nil_append, List.getElem?_cons_zero, List.getElem?_cons_succ, List.set_cons_zero, List.set_cons_succ, List.replicate, D.bl.injEq, D.int.injEq, D.str.injEq, D.tup.injEq, D.lst.injEq, exists_eq_left', exists_eq_left, Option.some.injEq, Bool.false_eq_true, if_true, if_false, true_and, and_true, false_and, and_false, isi_int, isi_bool, isi_str, isi_tuple, isi_list, isiT_int, isiT_bool, isiT_str, isiT_tuple, isiT_list, Bool.not_true, Bool.not_false, dat_non, dat_bl, dat_int, dat_str, dat_tup, dat_lst, isInt_non, isInt_bl, isInt_int, isInt_str, isInt_tup, isInt_lst, isBool_non, isBool_bl, isBool_int, isBool_str, isBool_tup, isBool_lst, isStr_non, isStr_bl, isStr_int, isStr_str, isStr_tup, isStr_lst, isTup_non, isTup_bl, isTup_int, isTup_str, isTup_tup, isTup_lst, isLst_non, isLst_bl, isLst_int, isLst_str, isLst_tup, isLst_lst, Nat.reduceAdd, Nat.zero_add, sz_0, sz_1, sz_2, sz_3, sz_4, sz_5, sz_6, sz_7, sz_8, sz_9, sz_10, sz_11, sz_12, List.any_cons, List.any_nil, eqD_tup, eqD_str, eqD_int, eqDs_cons, eqDs_nil, eqDs_cn, eqDs_nc, Bool.or_false, Bool.and_true, at0, at1, at2, at3, at4, good_int, good_bl, good_nil, good_nilL, good_non, eqDs_nil_r, eqDs_nil_l, List.isEmpty_nil, List.isEmpty_cons, Bool.and_false, Bool.or_true, Bool.false_or, Bool.true_or, Bool.false_and, Bool.true_and, encB, wipS_mk, List.foldr_cons, List.foldr_nil, con_updW, ↓ixC_ownD, ↓oIx_tup, ↓oIx_lst, ↓oIx_str, ↓lenC_ownL, ↓lenC_ownD, ↓setC_ownD, putC_adr, Own_lst_inj, Con_own_inj, updW_upd, Nat.reduceSub, Nat.sub_self, ↓itD_lst, ↓itD_tup, ↓oInt_i, ↓oCmp_i, ↓oAdd_i, ↓oAdd_s, ↓oAdd_t, ↓oAdd_l, ↓oNeg_i, ↓o1I_i, ↓o2I_i, ↓oSl_t, ↓oSl_l, ↓oList_t, ↓oList_l, ↓oTuple_t, ↓oTuple_l, ↓oIn_t, ↓oIn_l, ↓oIsN_n, ↓ixC_ownLi, ↓setC_ownLi, ixN20, ixN21, ex_int1, ex_int2, ↓pSet_eq, ↓ixK_tup, ↓ixK_lst, ↓ixK_str, ↓ixK_dct, ↓lenK_tup, ↓lenK_lst, ↓lenK_str, ↓pSetO_eq, ↓pPar_eq, ↓kPar_mk, ↓pGet2, ↓pFrzO_eq, ↓kFrz_lst, ↓kFrz_dct, ↓pPairs_nil, ↓pPairs_cons, ↓poDisp, ↓getC_val, isDc_val, ↓poCat, ↓catD_l, ↓pVarV0, ↓pVarV1, ↓pVarL0, ↓pVarL1, ↓pVarD0, ↓pVarD1, ↓pkVarV0, ↓pkVarV1, ↓pkVarO0, ↓pkVarO1, ↓kSetN0, ↓kSetN1, ↓kSetO_N0, ↓kSetO_N1, ↓pgNameN0, ↓pgNameN1, ↓ixS0, ↓ixS1, ↓lenS0, ↓lenS1, ↓setS0, ↓setS1, ↓conS0, ↓conS1, ↓putS0, ↓putS1]
  refine ⟨L, v, rfl, hL, hv, fun h2 => ?_, fun _ => q⟩
  rw [h] at h2; cases h2
abbrev s_Loop_eq : Stmt := inClass (topS 69) 16
abbrev N_Loop_eq : List Str := ["self", "other"]
theorem sc_Loop_eq : FnScope N_Loop_eq ["self", "other"] (defScope s_Loop_eq) := ⟨rfl, rfl, rfl, by decide +kernel, rfl, by decide +kernel, by decide +kernel⟩
theorem ok_Loop_eq  {k : Nat} {C_Loop : Addr} {g : Addr} {fd : FuncData} (F : Fun K "__eq__" "Loop.__eq__" s_Loop_eq g fd) (n_Loop_base : NoAttr K C_Loop "base") (i_Loop : InC K C_Loop) (is_Loop : C8.InsC K C_Loop) (m_isinstance : mg "isinstance" = none) (gc_Loop : mg "Loop" = some (.ref C_Loop))  :
    FnR P w K mg base (L2.CX P w) (k + 1) g (spP K 2 (φ_Loop_eq C_Loop)) := by
  refine fnr_of (ok_of (N := N_Loop_eq) (k := k) F sc_Loop_eq fun cdv A outer s H E hr => ⟨_, (pmss_one (pms_ret (pm_and (pm_isC is_Loop (by rfl) m_isinstance (by decide +kernel) (pma_cons (pm_var (pv 1)) (pma_cons (pm_gr gc_Loop (by rfl)) pma_nil))) (pm_one (pm_cmp (od_eq (Room.hu64 hr)) (pm_fld i_Loop.cl n_Loop_base (pm_var (pv 0))) (pm_fld i_Loop.cl n_Loop_base (pm_var (pv 1))) (nomark _)))))), ?_⟩) (F.binds (ps := ["self", "other"]) fun _ _ _ _ _ _ us hl => match us, hl with | [_, _], _ => rfl)
  rintro ds Wo Q E' - ⟨p, p2, L, L2, rfl, h1, h2, hw, hw2, q⟩
  try simp only [↓pIsC, ↓pFld, ↓insW_val hw, ↓insW_val hw2, getN_base, ↓pC, ↓pOp, ↓pUn, ↓pSl, ↓pPart, ↓pNil, ↓pCons, ↓pTup, ↓pLst, ↓pCallB, ↓pTest, ↓pNot, ↓pAnd, ↓pOr, ↓pAndV, ↓pOrV, ↓pNotV, ↓pIf, ↓pNext, ↓pSeq, ↓pBreak, ↓pCont, ↓pDrop, ↓pRet, ↓pRetN, ↓pIfS, ↓pgNil, ↓pgCons, ↓pgTup, ↓pAsg, ↓pRaise, ↓pCall, ↓pIter, ↓pFor, ↓pLc, ↓pYes, ↓pkOf, ↓pIxK, ↓pTabG, ↓pLenK, ↓pChain, ↓pStore, ↓pAppend, ↓pPop, ↓poLst, ↓poDct, ↓pNewW, ↓pRng1, ↓pRng2, ↓pTry, ↓pTryAs, ↓oEq, ↓oNe, ↓oLen, ↓oSum, ↓oAll, ↓oAny, ↓oIsi, start0, List.map_cons, List.map_nil, List.length_cons, List.length_nil, List.cons_append, List.nil_append, List.getElem?_cons_zero, List.getElem?_cons_succ, List.set_cons_zero, List.set_cons_succ, List.replicate, D.bl.injEq, D.int.injEq, D.str.injEq, D.tup.injEq, D.lst.injEq, exists_eq_left', exists_eq_left, Option.some.injEq, Bool.false_eq_true, if_true, if_false, true_and, and_true, false_and, and_false, isi_int, isi_bool, isi_str, isi_tuple, isi_list, isiT_int, isiT_bool, isiT_str, isiT_tuple, isiT_list, Bool.not_true, Bool.not_false, dat_non, dat_bl, dat_int, dat_str, dat_tup, dat_lst, isInt_non, isInt_bl, isInt_int, isInt_str, isInt_tup, isInt_lst, isBool_non, isBool_bl, isBool_int, isBool_str, isBool_tup, isBool_lst, isStr_non, isStr_bl, isStr_int, isStr_str, isStr_tup, isStr_lst, isTup_non, isTup_bl, isTup_int, isTup_str, isTup_tup, isTup_lst, isLst_non, isLst_bl, isLst_int, isLst_str, isLst_tup, isLst_lst, Nat.reduceAdd, Nat.zero_add, sz_0, sz_1, sz_2, sz_3, sz_4, sz_5, sz_6, sz_7, sz_8, sz_9, sz_10, sz_11, sz_12, List.any_cons, List.any_nil, eqD_tup, eqD_str, eqD_int, eqDs_cons, eqDs_nil, eqDs_cn, eqDs_nc, Bool.or_false, Bool.and_true, at0, at1, at2, at3, at4, good_int, good_bl, good_nil, good_nilL, good_non, eqDs_nil_r, eqDs_nil_l, List.isEmpty_nil, List.isEmpty_cons, Bool.and_false, Bool.or_true, Bool.false_or, Bool.true_or, Bool.false_and, Bool.true_and, encB, wipS_mk, List.foldr_cons, List.foldr_nil, con_updW, ↓ixC_ownD, ↓oIx_tup, ↓oIx_lst, ↓oIx_str, ↓lenC_ownL, ↓lenC_ownD, ↓setC_ownD, putC_adr, Own_lst_inj, Con_own_inj, updW_upd, Nat.reduceSub, Nat.sub_self, ↓itD_lst, ↓itD_tup, ↓oInt_i, ↓oCmp_i, ↓oAdd_i, ↓oAdd_s, ↓oAdd_t, ↓oAdd_l, ↓oNeg_i, ↓o1I_i, ↓o2I_i, ↓oSl_t, ↓oSl_l, ↓oList_t, ↓oList_l, ↓oTuple_t, ↓oTuple_l, ↓oIn_t, ↓oIn_l, ↓oIsN_n, ↓ixC_ownLi, ↓setC_ownLi, ixN20, ixN21, ex_int1, ex_int2, ↓pSet_eq, ↓ixK_tup, ↓ixK_lst, ↓ixK_str, ↓ixK_dct, ↓lenK_tup, ↓lenK_lst, ↓lenK_str, ↓pSetO_eq, ↓pPar_eq, ↓kPar_mk, ↓pGet2, ↓pFrzO_eq, ↓kFrz_lst, ↓kFrz_dct, ↓pPairs_nil, ↓pPairs_cons, ↓poDisp, ↓getC_val, isDc_val, ↓poCat, ↓catD_l, ↓pVarV0, ↓pVarV1, ↓pVarL0, ↓pVarL1, ↓pVarD0, ↓pVarD1, ↓pkVarV0, ↓pkVarV1, ↓pkVarO0, ↓pkVarO1, ↓kSetN0, ↓kSetN1, ↓kSetO_N0, ↓kSetO_N1, ↓pgNameN0, ↓pgNameN1, ↓ixS0, ↓ixS1, ↓lenS0, ↓lenS1, ↓setS0, ↓setS1, ↓conS0, ↓conS1, ↓putS0, ↓putS1]
  refine ⟨p2, _, _, rfl, hw2, ?_⟩
  try simp only [↓pFld, ↓insW_val hw, ↓insW_val hw2, getN_base, ↓pC, ↓pOp, ↓pUn, ↓pSl, ↓pPart, ↓pNil, ↓pCons, ↓pTup, ↓pLst, ↓pCallB, ↓pTest, ↓pNot, ↓pAnd, ↓pOr, ↓pAndV, ↓pOrV, ↓pNotV, ↓pIf, ↓pNext, ↓pSeq, ↓pBreak, ↓pCont, ↓pDrop, ↓pRet, ↓pRetN, ↓pIfS, ↓pgNil, ↓pgCons, ↓pgTup, ↓pAsg, ↓pRaise, ↓pCall, ↓pIter, ↓pFor, ↓pLc, ↓pYes, ↓pkOf, ↓pIxK, ↓pTabG, ↓pLenK, ↓pChain, ↓pStore, ↓pAppend, ↓pPop, ↓poLst, ↓poDct, ↓pNewW, ↓pRng1, ↓pRng2, ↓pTry, ↓pTryAs, ↓oEq, ↓oNe, ↓oLen, ↓oSum, ↓oAll, ↓oAny, ↓oIsi, start0, List.map_cons, List.map_nil, List.length_cons, List.length_nil, List.cons_append, List.nil_append, List.getElem?_cons_zero, List.getElem?_cons_succ, List.set_cons_zero, List.set_cons_succ, List.replicate, D.bl.injEq, D.int.injEq, D.str.injEq, D.tup.injEq, D.lst.injEq, exists_eq_left', exists_eq_left, Option.some.injEq, Bool.false_eq_true, if_true, if_false, true_and, and_true, false_and, and_false, isi_int, isi_bool, isi_str, isi_tuple, isi_list, isiT_int, isiT_bool, isiT_str, isiT_tuple, isiT_list, Bool.not_true, Bool.not_false, dat_non, dat_bl, dat_int, dat_str, dat_tup, dat_lst, isInt_non, isInt_bl, isInt_int, isInt_str, isInt_tup, isInt_lst, isBool_non, isBool_bl, isBool_int, isBool_str, isBool_tup, isBool_lst, isStr_non, isStr_bl, isStr_int, isStr_str, isStr_tup, isStr_lst, isTup_non, isTup_bl, isTup_int, isTup_str, isTup_tup, isTup_lst, isLst_non, isLst_bl, isLst_int, isLst_str, isLst_tup, isLst_lst, Nat.reduceAdd, Nat.zero_add, sz_0, sz_1, sz_2, sz_3, sz_4, sz_5, sz_6, sz_7, sz_8, sz_9, sz_10, sz_11, sz_12, List.any_cons, List.any_nil, eqD_tup, eqD_str, eqD_int, eqDs_cons, eqDs_nil, eqDs_cn, eqDs_nc, Bool.or_false, Bool.and_true, at0, at1, at2, at3, at4, good_int, good_bl, good_nil, good_nilL, good_non, eqDs_nil_r, eqDs_nil_l, List.isEmpty_nil, List.isEmpty_cons, Bool.and_false, Bool.or_true, Bool.false_or, Bool.true_or, Bool.false_and, Bool.true_and, encB, wipS_mk, List.foldr_cons, List.foldr_nil, con_updW, ↓ixC_ownD, ↓oIx_tup, ↓oIx_lst, ↓oIx_str, ↓lenC_ownL, ↓lenC_ownD, ↓setC_ownD, putC_adr, Own_lst_inj, Con_own_inj, updW_upd, Nat.reduceSub, Nat.sub_self, ↓itD_lst, ↓itD_tup, ↓oInt_i, ↓oCmp_i, ↓oAdd_i, ↓oAdd_s, ↓oAdd_t, ↓oAdd_l, ↓oNeg_i, ↓o1I_i, ↓o2I_i, ↓oSl_t, ↓oSl_l, ↓oList_t, ↓oList_l, ↓oTuple_t, ↓oTuple_l, ↓oIn_t, ↓oIn_l, ↓oIsN_n, ↓ixC_ownLi, ↓setC_ownLi, ixN20, ixN21, ex_int1, ex_int2, ↓pSet_eq, ↓ixK_tup, ↓ixK_lst, ↓ixK_str, ↓ixK_dct, ↓lenK_tup, ↓lenK_lst, ↓lenK_str, ↓pSetO_eq, ↓pPar_eq, ↓kPar_mk, ↓pGet2, ↓pFrzO_eq, ↓kFrz_lst, ↓kFrz_dct, ↓pPairs_nil, ↓pPairs_cons, ↓poDisp, ↓getC_val, isDc_val, ↓poCat, ↓catD_l, ↓pVarV0, ↓pVarV1, ↓pVarL0, ↓pVarL1, ↓pVarD0, ↓pVarD1, ↓pkVarV0, ↓pkVarV1, ↓pkVarO0, ↓pkVarO1, ↓kSetN0, ↓kSetN1, ↓kSetO_N0, ↓kSetO_N1, ↓pgNameN0, ↓pgNameN1, ↓ixS0, ↓ixS1, ↓lenS0, ↓lenS1, ↓setS0, ↓setS1, ↓conS0, ↓conS1, ↓putS0, ↓putS1]
  exact ⟨good_L h1, good_L h2, q⟩
abbrev s__law_source : Stmt := topS 71
abbrev N__law_source : List Str := ["script", "k", "cell"]
theorem sc__law_source : FnScope N__law_source ["script", "k"] (defScope s__law_source) := ⟨rfl, rfl, rfl, by decide +kernel, rfl, by decide +kernel, by decide +kernel⟩
theorem ok__law_source  {k : Nat}  (T : TopD K mg "_law_source" ["script", "k"] s__law_source) (m_int : mg "int" = none) (m_len : mg "len" = none) (m_abs : mg "abs" = none)  :
    CallF P w K mg base "_law_source" 2 (k + 1) (φ__law_source) := by
  refine call_of (N := N__law_source) (k := k) T sc__law_source fun f cdv A outer s H E hr => ⟨_, (pmss_cons (pms_set (i := 2) (fun W t => ps_set (i := 2) sc__law_source.nd rfl (.inl rfl) (pm_int W t)))
      (pmss_cons (pms_if (pmt_cmp od_lt (pm_var (pv 1)) (pm_lenK (by rfl) m_len (pk_var (pv 0))) (nomark _)) (pmss_one (pms_set (i := 2) (fun W t => ps_set (i := 2) sc__law_source.nd rfl (.inl rfl) ((pm_callB cd_abs (by rfl) m_abs (by decide +kernel) (pma_cons (pm_callTy cd_int (by rfl) m_int boot_int (pma_cons (pm_ixK (Room.hu1 hr) (pk_var (pv 0)) (pm_var (pv 1)) (fun _ _ => rfl)) pma_nil)) pma_nil)) W t)))) pmss_nil)
      (pmss_cons (pms_if (pmt_cmp od_lt (pm_var (pv 2)) (pm_op od_pow pm_int pm_int) (nomark _)) (pmss_one (pms_ret (pm_newW (pmo_lst (pma_cons pm_int (pma_cons (pm_op od_add pm_int (pm_op od_mod (pm_callTy cd_int (by rfl) m_int boot_int (pma_cons (pm_op od_add (pm_op od_mul (pm_var (pv 2)) pm_int) (pm_op od_mul pm_int (pm_var (pv 1)))) pma_nil)) pm_int)) pma_nil)))))) pmss_nil)
      (pmss_one (pms_ret (pm_newW (pmo_lst (pma_cons (pm_var (pv 2)) (pma_cons (pm_op od_add pm_int (pm_op od_mod (pm_callTy cd_int (by rfl) m_int boot_int (pma_cons (pm_op od_add (pm_var (pv 2)) (pm_var (pv 1))) pma_nil)) pm_int)) pma_nil))))))))), ?_⟩
  rintro ds Wo Q E' - ⟨xs, k, rfl, hk, h10, q⟩
  have q' : ∀ x y : Int, ∀ a, Wo a = none → Q (.adr a) (updW Wo a (.lst [.int x, .int y])) := fun x y a h => q a _ ⟨x, y, rfl⟩ h
  have c1 : CPow 10 18 := by unfold CPow; decide
  have c2 : CMul 104729 k := .inl (by decide)
  have c3 : ∀ x, CMul x 7919 := fun x => .inr (by decide)
  walk_at "pls"
  refine ite2 (fun z => ?_) (fun z => ?_)
  · have z : k < xs.length := by simpa using z
    obtain ⟨x, hx, ex⟩ := atI_lt (xs := xs.map D.int) hk (by simpa using z)
    obtain ⟨x, _, rfl⟩ := List.mem_map.mp hx
    refine ⟨.int x, ex, ?_⟩
    · walk_at "pls"
      exact ⟨c1, ite2 (fun _ => ⟨c3 _, c2, by decide, q' _ _⟩) (fun _ => ⟨by decide, q' _ _⟩)⟩
  · exact ⟨c1, ite2 (fun _ => ⟨c3 _, c2, by decide, q' _ _⟩) (fun _ => ⟨by decide, q' _ _⟩)⟩
abbrev s__law_draw : Stmt := topS 72
abbrev N__law_draw : List Str := ["source", "many", "found"]
theorem sc__law_draw : FnScope N__law_draw ["source", "many"] (defScope s__law_draw) := ⟨rfl, rfl, rfl, by decide +kernel, rfl, by decide +kernel, by decide +kernel⟩
theorem ok__law_draw  {k : Nat}  (T : TopD K mg "_law_draw" ["source", "many"] s__law_draw) (m_int : mg "int" = none)  :
    CallF P w K mg base "_law_draw" 2 (k + 1) (φ__law_draw) := by
  refine call_of (N := N__law_draw) (k := k) T sc__law_draw fun f cdv A outer s H E hr => ⟨_, (pmss_cons (pms_if (pmt_cmp od_gt (pm_ixK (Room.hu1 hr) (pk_var (pv 0)) pm_int (fun _ _ => rfl)) pm_int (nomark _)) (pmss_cons (pms_set (i := 2) (fun W t => ps_set (i := 2) sc__law_draw.nd rfl (.inl rfl) ((pm_op od_mod (pm_callTy cd_int (by rfl) m_int boot_int (pma_cons (pm_ixK (Room.hu1 hr) (pk_var (pv 0)) pm_int (fun _ _ => rfl)) pma_nil)) (pm_var (pv 1))) W t)))
      (pmss_cons (pms_store (fun W t => ps_asg ((pm_op od_fdiv (pm_ixK (Room.hu1 hr) (pk_var (pv 0)) pm_int (fun _ _ => rfl)) (pm_var (pv 1))) W t) (pg_sub ((pk_var (pv 0)) W t) (pm_int W t) (set_any (Room.hu1 hr)))))
      (pmss_one (pms_ret (pm_var (pv 2)))))) pmss_nil)
      (pmss_cons (pms_store (fun W t => ps_asg ((pm_op od_mod (pm_callTy cd_int (by rfl) m_int boot_int (pma_cons (pm_op od_mul (pm_ixK (Room.hu1 hr) (pk_var (pv 0)) pm_int (fun _ _ => rfl)) pm_int) pma_nil)) pm_int) W t) (pg_sub ((pk_var (pv 0)) W t) (pm_int W t) (set_any (Room.hu1 hr)))))
      (pmss_one (pms_ret (pm_op od_mod (pm_callTy cd_int (by rfl) m_int boot_int (pma_cons (pm_op od_fdiv (pm_op od_mod (pm_callTy cd_int (by rfl) m_int boot_int (pma_cons (pm_op od_mul (pm_ixK (Room.hu1 hr) (pk_var (pv 0)) pm_int (fun _ _ => rfl)) (pm_ixK (Room.hu1 hr) (pk_var (pv 0)) pm_int (fun _ _ => rfl))) pma_nil)) pm_int) pm_int) pma_nil)) (pm_var (pv 1))))))), ?_⟩
  rintro ds Wo Q E' - ⟨a, m, rfl, hm, hm2, ⟨x, y, hx⟩, q⟩
  have cn : ∀ ρ, con ⟨ρ, Wo⟩ (.val (.adr a)) = .own (.lst [.int x, .int y]) := fun ρ => con_own hx
  have q' : ∀ z x y : Int, 0 ≤ z → z < m → Q (.int z) (updW Wo a (.lst [.int x, .int y])) := fun z x y h1 h2 => q z _ h1 h2 ⟨x, y, rfl⟩
  try simp only [cn, ↓pC, ↓pOp, ↓pUn, ↓pSl, ↓pPart, ↓pNil, ↓pCons, ↓pTup, ↓pLst, ↓pCallB, ↓pTest, ↓pNot, ↓pAnd, ↓pOr, ↓pAndV, ↓pOrV, ↓pNotV, ↓pIf, ↓pNext, ↓pSeq, ↓pBreak, ↓pCont, ↓pDrop, ↓pRet, ↓pRetN, ↓pIfS, ↓pgNil, ↓pgCons, ↓pgTup, ↓pAsg, ↓pRaise, ↓pCall, ↓pIter, ↓pFor, ↓pLc, ↓pYes, ↓pkOf, ↓pIxK, ↓pTabG, ↓pLenK, ↓pChain, ↓pStore, ↓pAppend, ↓pPop, ↓poLst, ↓poDct, ↓pNewW, ↓pRng1, ↓pRng2, ↓pTry, ↓pTryAs, ↓oEq, ↓oNe, ↓oLen, ↓oSum, ↓oAll, ↓oAny, ↓oIsi, start0, List.map_cons, List.map_nil, List.length_cons, List.length_nil, List.cons_append, List.nil_append, List.getElem?_cons_zero, List.getElem?_cons_succ, List.set_cons_zero, List.set_cons_succ, List.replicate, D.bl.injEq, D.int.injEq, D.str.injEq, D.tup.injEq, D.lst.injEq, exists_eq_left', exists_eq_left, Option.some.injEq, Bool.false_eq_true, if_true, if_false, true_and, and_true, false_and, and_false, isi_int, isi_bool, isi_str, isi_tuple, isi_list, isiT_int, isiT_bool, isiT_str, isiT_tuple, isiT_list, Bool.not_true, Bool.not_false, dat_non, dat_bl, dat_int, dat_str, dat_tup, dat_lst, isInt_non, isInt_bl, isInt_int, isInt_str, isInt_tup, isInt_lst, isBool_non, isBool_bl, isBool_int, isBool_str, isBool_tup, isBool_lst, isStr_non, isStr_bl, isStr_int, isStr_str, isStr_tup, isStr_lst, isTup_non, isTup_bl, isTup_int, isTup_str, isTup_tup, isTup_lst, isLst_non, isLst_bl, isLst_int, isLst_str, isLst_tup, isLst_lst, Nat.reduceAdd, Nat.zero_add, sz_0, sz_1, sz_2, sz_3, sz_4, sz_5, sz_6, sz_7, sz_8, sz_9, sz_10, sz_11, sz_12, List.any_cons, List.any_nil, eqD_tup, eqD_str, eqD_int, eqDs_cons, eqDs_nil, eqDs_cn, eqDs_nc, Bool.or_false, Bool.and_true, at0, at1, at2, at3, at4, good_int, good_bl, good_nil, good_nilL, good_non, eqDs_nil_r, eqDs_nil_l, List.isEmpty_nil, List.isEmpty_cons, Bool.and_false, Bool.or_true, Bool.false_or, Bool.true_or, Bool.false_and, Bool.true_and, encB, wipS_mk, List.foldr_cons, List.foldr_nil, con_updW, ↓ixC_ownD, ↓oIx_tup, ↓oIx_lst, ↓oIx_str, ↓lenC_ownL, ↓lenC_ownD, ↓setC_ownD, putC_adr, Own_lst_inj, Con_own_inj, updW_upd, Nat.reduceSub, Nat.sub_self, ↓itD_lst, ↓itD_tup, ↓oInt_i, ↓oCmp_i, ↓oAdd_i, ↓oAdd_s, ↓oAdd_t, ↓oAdd_l, ↓oNeg_i, ↓o1I_i, ↓o2I_i, ↓oSl_t, ↓oSl_l, ↓oList_t, ↓oList_l, ↓oTuple_t, ↓oTuple_l, ↓oIn_t, ↓oIn_l, ↓oIsN_n, ↓ixC_ownLi, ↓setC_ownLi, ixN20, ixN21, ex_int1, ex_int2, ↓pSet_eq, ↓ixK_tup, ↓ixK_lst, ↓ixK_str, ↓ixK_dct, ↓lenK_tup, ↓lenK_lst, ↓lenK_str, ↓pSetO_eq, ↓pPar_eq, ↓kPar_mk, ↓pGet2, ↓pFrzO_eq, ↓kFrz_lst, ↓kFrz_dct, ↓pPairs_nil, ↓pPairs_cons, ↓poDisp, ↓getC_val, isDc_val, ↓poCat, ↓catD_l, ↓pVarV0, ↓pVarV1, ↓pVarV2, ↓pVarL0, ↓pVarL1, ↓pVarL2, ↓pVarD0, ↓pVarD1, ↓pVarD2, ↓pkVarV0, ↓pkVarV1, ↓pkVarV2, ↓pkVarO0, ↓pkVarO1, ↓pkVarO2, ↓kSetN0, ↓kSetN1, ↓kSetN2, ↓kSetO_N0, ↓kSetO_N1, ↓kSetO_N2, ↓pgNameN0, ↓pgNameN1, ↓pgNameN2, ↓ixS0, ↓ixS1, ↓ixS2, ↓lenS0, ↓lenS1, ↓lenS2, ↓setS0, ↓setS1, ↓setS2, ↓conS0, ↓conS1, ↓conS2, ↓putS0, ↓putS1, ↓putS2]
  refine ite2 (fun z => ?_) (fun z => ?_)
  · exact ⟨hm, ⟨hm, hm2⟩, q' _ _ _ (Int.emod_nonneg _ (by omega)) (Int.emod_lt_of_pos _ hm)⟩
  · have h1 := Int.emod_nonneg (y * 48271) (show (2147483647 : Int) ≠ 0 by decide)
    have h2 := Int.emod_lt_of_pos (y * 48271) (show (0 : Int) < 2147483647 by decide)
    exact ⟨.inr (by decide), by decide, .inl ⟨by omega, by omega⟩, by decide, ⟨by decide, by decide⟩, hm, q' _ _ _ (Int.emod_nonneg _ (by omega)) (Int.emod_lt_of_pos _ hm)⟩
abbrev s__law_of : Stmt := topS 73
abbrev N__law_of : List Str := ["source", "items"]
theorem sc__law_of : FnScope N__law_of ["source", "items"] (defScope s__law_of) := ⟨rfl, rfl, rfl, by decide +kernel, rfl, by decide +kernel, by decide +kernel⟩
theorem ok__law_of  {k : Nat}  (T : TopD K mg "_law_of" ["source", "items"] s__law_of) (m_len : mg "len" = none) (c__law_draw : CallF P w K mg base "_law_draw" 2 k (φ__law_draw))  :
    CallF P w K mg base "_law_of" 2 (k + 1) (φ__law_of) := by
  refine call_of (N := N__law_of) (k := k) T sc__law_of fun f cdv A outer s H E hr => ⟨_, (pmss_one (pms_ret (pm_ixK (Room.hu1 hr) (pk_var (pv 1)) (pm_callF c__law_draw hr (by rfl) (pma_cons (pm_var (pv 0)) (pma_cons (pm_lenK (by rfl) m_len (pk_var (pv 1))) pma_nil))) (fun _ _ => rfl)))), ?_⟩
  rintro ds Wo Q E' - ⟨a, d, xs, rfl, hd, hx, hl, hs, q⟩
  walk_at "pls"
  have hp : 0 < xs.length := List.length_pos_iff.mpr hx
  have fin : ∀ (z : Int) W', 0 ≤ z → z < (xs.length : Int) → Dr Wo a W' → ∃ d, atI xs z = some d ∧ Q d W' := fun z W' h1 h2 h3 => by
    obtain ⟨x, hx, ex⟩ := atI_lt h1 h2
    exact ⟨x, ex, q _ _ hx h3⟩
  cases d with
  | lst ys =>
    cases hd
    walk_at "pls"
    refine ⟨a, _, rfl, by omega, by omega, hs, fun z W' h1 h2 h3 => ?_⟩
    walk_at "pls"
    exact fin z W' h1 h2 h3
  | tup ys =>
    cases hd
    walk_at "pls"
    refine ⟨a, _, rfl, by omega, by omega, hs, fun z W' h1 h2 h3 => ?_⟩
    walk_at "pls"
    exact fin z W' h1 h2 h3
  | _ => cases hd
abbrev s__law_simple : Stmt := topS 74
abbrev N__law_simple : List Str := ["source", "way", "number"]
theorem sc__law_simple : FnScope N__law_simple ["source"] (defScope s__law_simple) := ⟨rfl, rfl, rfl, by decide +kernel, rfl, by decide +kernel, by decide +kernel⟩
theorem ok__law_simple  {k : Nat}  (T : TopD K mg "_law_simple" ["source"] s__law_simple) (c__law_of : CallF P w K mg base "_law_of" 2 k (φ__law_of)) (c__law_draw : CallF P w K mg base "_law_draw" 2 k (φ__law_draw))  :
    CallF P w K mg base "_law_simple" 1 (k + 1) (φ__law_simple) := by
  refine call_of (N := N__law_simple) (k := k) T sc__law_simple fun f cdv A outer s H E hr => ⟨_, (pmss_cons (pms_par (i := 1) (j := 2) (fun W t => ps_par (i := 1) (j := 2) rfl sc__law_simple.nd rfl rfl (by decide) rfl rfl ((pma_cons (pm_callF c__law_draw hr (by rfl) (pma_cons (pm_var (pv 0)) (pma_cons pm_int pma_nil))) (pma_cons (pm_op od_add pm_int (pm_callF c__law_draw hr (by rfl) (pma_cons (pm_var (pv 0)) (pma_cons (pm_callF c__law_of hr (by rfl) (pma_cons (pm_var (pv 0)) (pma_cons (pm_lst (pma_cons pm_int (pma_cons pm_int (pma_cons pm_int pma_nil)))) pma_nil))) pma_nil)))) pma_nil)) W t) (by rfl)))
      (pmss_cons (pms_if (pmt_cmp od_lt (pm_var (pv 1)) pm_int (nomark _)) (pmss_one (pms_ret (pm_tup (pma_cons (pm_callF c__law_of hr (by rfl) (pma_cons (pm_var (pv 0)) (pma_cons (pm_lst (pma_cons pm_str (pma_cons pm_str (pma_cons pm_str (pma_cons pm_str (pma_cons pm_str pma_nil)))))) pma_nil))) (pma_cons (pm_var (pv 2)) pma_nil))))) pmss_nil)
      (pmss_cons (pms_if (pmt_cmp od_lt (pm_var (pv 1)) pm_int (nomark _)) (pmss_one (pms_ret (pm_tup (pma_cons pm_str pma_nil)))) pmss_nil)
      (pmss_one (pms_ret (pm_tup (pma_cons (pm_callF c__law_of hr (by rfl) (pma_cons (pm_var (pv 0)) (pma_cons (pm_lst (pma_cons pm_str (pma_cons pm_str pma_nil))) pma_nil))) pma_nil))))))), ?_⟩
  rintro ds Wo Q E' - ⟨a, rfl, hs, q⟩
  walk_at "pls"
  refine ⟨a, _, rfl, by decide, by decide, hs, fun w W1 w1 w2 d1 => ?_⟩
  refine ⟨a, _, _, rfl, rfl, by simp, by decide, d1.src, fun z W2 hz d2 => ?_⟩
  have d12 := d1.trans d2
  obtain ⟨z, rfl, z1, z2⟩ : ∃ n : Int, z = .int n ∧ 0 < n ∧ n ≤ 8 := by
    simp only [List.mem_cons, List.not_mem_nil, or_false] at hz
    rcases hz with rfl | rfl | rfl <;> exact ⟨_, rfl, by decide, by decide⟩
  refine ⟨a, _, rfl, z1, by omega, d2.src, fun n W3 n1 n2 d3 => ?_⟩
  have d123 := d12.trans d3
  have hin : inR 1 8 (1 + n) = true := by simp only [inR, Bool.and_eq_true, decide_eq_true_eq]; omega
  walk_at "pls"
  refine ite2 (fun _ => ?_) (fun _ => ite2 (fun _ => ?_) (fun _ => ?_))
  · refine ⟨a, _, _, rfl, rfl, by simp, by decide, d3.src, fun x W4 hx d4 => ?_⟩
    have dd := d123.trans d4
    simp only [List.mem_cons, List.not_mem_nil, or_false] at hx
    rcases hx with rfl | rfl | rfl | rfl | rfl
    · exact q (.wait _) _ hin dd
    · exact q (.rest _) _ hin dd
    · exact q (.move _) _ hin dd
    · exact q (.ahead _) _ hin dd
    · exact q (.set _) _ hin dd
  · exact q .until _ rfl d123
  · refine ⟨a, _, _, rfl, rfl, by simp, by decide, d3.src, fun x W4 hx d4 => ?_⟩
    have dd := d123.trans d4
    simp only [List.mem_cons, List.not_mem_nil, or_false] at hx
    rcases hx with rfl | rfl
    · exact q .up _ rfl dd
    · exact q .down _ rfl dd
abbrev s__law_body : Stmt := topS 75
abbrev N__law_body : List Str := ["source", "deep", "most", "found", "turn", "statement", "test"]
theorem sc__law_body : FnScope N__law_body ["source", "deep", "most"] (defScope s__law_body) := ⟨rfl, rfl, rfl, by decide +kernel, rfl, by decide +kernel, by decide +kernel⟩
theorem ok__law_body {d : Nat} {k : Nat}  (T : TopD K mg "_law_body" ["source", "deep", "most"] s__law_body) (m_range : mg "range" = none) (c__law_draw : CallF P w K mg base "_law_draw" 2 k (φ__law_draw)) (c__law_body : CallF P w K mg base "_law_body" 3 k (lowφ 2 φ__law_body d)) (c__law_of : CallF P w K mg base "_law_of" 2 k (φ__law_of)) (c__law_simple : CallF P w K mg base "_law_simple" 1 k (φ__law_simple)) (hd : 1 ≤ d) :
    CallF P w K mg base "_law_body" 3 (k + 1) (φ__law_body d) := by
  refine call_of (N := N__law_body) (k := k) T sc__law_body fun f cdv A outer s H E hr => ⟨_, (pmss_cons (pms_set (i := 3) (fun W t => ps_set (i := 3) sc__law_body.nd rfl (.inl rfl) ((pm_tup pma_nil) W t)))
      (pmss_cons (pms_for (passes_of rfl) rfl (pmi_range1 (by rfl) m_range (pma_cons (pm_callF c__law_draw hr (by rfl) (pma_cons (pm_var (pv 0)) (pma_cons (pm_op od_add (pm_var (pv 2)) pm_int) pma_nil))) pma_nil)) (pmg_of (vs := [4]) (pg_name (i := 4) sc__law_body.nd rfl (.inl rfl)))
      (pmss_cons (pms_set (i := 5) (fun W t => ps_set (i := 5) sc__law_body.nd rfl (.inl rfl) ((pm_callF c__law_simple hr (by rfl) (pma_cons (pm_var (pv 0)) pma_nil)) W t)))
      (pmss_cons (pms_if (pmt_w (pmw_and (pmt_cmp od_gt (pm_var (pv 1)) pm_int (nomark _)) (pmw_and1 (pmt_cmp (od_eq (Room.hu64 hr)) (pm_callF c__law_draw hr (by rfl) (pma_cons (pm_var (pv 0)) (pma_cons pm_int pma_nil))) pm_int (nomark _))))) (pmss_cons (pms_set (i := 6) (fun W t => ps_set (i := 6) sc__law_body.nd rfl (.inl rfl) ((pm_callF c__law_of hr (by rfl) (pma_cons (pm_var (pv 0)) (pma_cons (pm_lst (pma_cons (pm_tup (pma_cons pm_str pma_nil)) (pma_cons (pm_tup (pma_cons pm_str pma_nil)) (pma_cons (pm_tup (pma_cons pm_str (pma_cons (pm_callF c__law_draw hr (by rfl) (pma_cons (pm_var (pv 0)) (pma_cons pm_int pma_nil))) pma_nil))) pma_nil)))) pma_nil))) W t)))
      (pmss_one (pms_set (i := 5) (fun W t => ps_set (i := 5) sc__law_body.nd rfl (.inl rfl) ((pm_tup (pma_cons pm_str (pma_cons (pm_var (pv 6)) (pma_cons (pm_callF c__law_body hr (by rfl) (pma_cons (pm_var (pv 0)) (pma_cons (pm_op od_sub (pm_var (pv 1)) pm_int) (pma_cons pm_int pma_nil)))) (pma_cons (pm_callF c__law_body hr (by rfl) (pma_cons (pm_var (pv 0)) (pma_cons (pm_op od_sub (pm_var (pv 1)) pm_int) (pma_cons pm_int pma_nil)))) pma_nil))))) W t))))) pmss_nil)
      (pmss_one (pms_set (i := 3) (fun W t => ps_set (i := 3) sc__law_body.nd rfl (.inl rfl) ((pm_op od_add (pm_var (pv 3)) (pm_tup (pma_cons (pm_var (pv 5)) pma_nil))) W t)))))))
      (pmss_one (pms_ret (pm_var (pv 3)))))), ?_⟩
  rintro ds Wo Q E' - ⟨a, m, rfl, h0, h8, hs, q⟩
  walk_at "pls"
  refine ⟨a, _, rfl, by omega, by omega, hs, fun n W1 n1 n2 d1 => ?_⟩
  walk_at "pls"
  refine ⟨⟨by omega, by omega⟩, ?_⟩
  refine forW_range (fun i S => ∃ b W s4 s5 s6, okB d b = true ∧ b.length = i ∧ Dr Wo a W ∧ S = ⟨[.val (.adr a), .val (.int d), .val (.int m), .val (encB b), s4, s5, s6], W⟩) ?_ ?_ ⟨[], W1, _, _, _, rfl, rfl, d1, rfl⟩
  · rintro S ⟨b, W, s4, s5, s6, hb, hl, dr, rfl⟩
    walk_at "pls"
    exact q b _ hb (by omega) dr
  · rintro i S K' hi ⟨b, W, s4, s5, s6, hb, hl, dr, rfl⟩ hK
    have fin : ∀ (s : Stm) W' s4 s6, okS d s = true → Dr Wo a W' → (encSs b).length + 1 ≤ sizeLine ∧ K' ⟨[.val (.adr a), .val (.int d), .val (.int m), .val (.tup (encSs b ++ [encS s])), s4, .val (encS s), s6], W'⟩ := fun s W' s4 s6 h1 h2 => by
      obtain ⟨hb1, hb2⟩ := okB_iff.mp hb
      refine ⟨by show _ ≤ 2 ^ 24; rw [encSs_map, List.length_map]; omega, hK _ ⟨b ++ [s], W', s4, .val (encS s), s6, okB_iff.mpr ⟨by simp; omega, fun x hx => ?_⟩, by simp; omega, h2, by rw [encB, encSs_map, encSs_map]; simp⟩⟩
      rcases List.mem_append.mp hx with hx | hx
      · exact hb2 x hx
      · rw [List.mem_singleton.mp hx]; exact h1
    walk_at "pls"
    refine ⟨a, rfl, dr.src, fun s W2 hs2 d2 => ?_⟩
    have dr2 := dr.trans d2
    have hso : okS d s = true := by obtain ⟨e, rfl⟩ : ∃ e, d = e + 1 := ⟨d - 1, by omega⟩
                                    exact simS_ok hs2 e
    refine ite2 (fun hd1 => ?_) (fun hd1 => fin s _ _ _ hso dr2)
    have hd1 : 1 < (d : Int) := by simpa using hd1
    refine ⟨a, _, rfl, by decide, by decide, d2.src, fun n W3 n1 n2 d3 => ?_⟩
    have dr3 := dr2.trans d3
    walk_at "pls"
    refine ite2 (fun _ => ?_) (fun _ => fin s _ _ _ hso dr3)
    refine ⟨a, _, rfl, by decide, by decide, d3.src, fun n4 W4 n41 n42 d4 => ?_⟩
    have dr4 := dr3.trans d4
    refine ⟨a, _, _, rfl, rfl, by simp, by simp, d4.src, fun t W5 ht d5 => ?_⟩
    have dr5 := dr4.trans d5
    obtain ⟨t, hto, rfl⟩ : ∃ u, okT u = true ∧ t = encT u := by
      simp only [List.mem_cons, List.not_mem_nil, or_false] at ht
      rcases ht with rfl | rfl | rfl
      · exact ⟨.due, rfl, rfl⟩
      · exact ⟨.flag, rfl, rfl⟩
      · exact ⟨.late n4, by simp only [okT, inR, Bool.and_eq_true, decide_eq_true_eq]; omega, rfl⟩
    have ed : (d : Int) - 1 = ((d - 1 : Nat) : Int) := by omega
    refine ⟨by omega, a, 2, by rw [ed], by decide, by decide, d5.src, fun b1 W6 b11 b12 d6 => ?_⟩
    have dr6 := dr5.trans d6
    refine ⟨by omega, a, 1, by rw [ed], by decide, by decide, d6.src, fun b2 W7 b21 b22 d7 => ?_⟩
    have dr7 := dr6.trans d7
    exact fin (.ite t b1 b2) _ _ _ (by obtain ⟨e, rfl⟩ : ∃ e, d = e + 1 := ⟨d - 1, by omega⟩
                                       exact okS_ite.mpr ⟨hto, b11, b21⟩) dr7
abbrev s__law_size : Stmt := topS 76
abbrev N__law_size : List Str := ["body", "many", "statement"]
theorem sc__law_size : FnScope N__law_size ["body"] (defScope s__law_size) := ⟨rfl, rfl, rfl, by decide +kernel, rfl, by decide +kernel, by decide +kernel⟩
theorem ok__law_size {d : Nat} {k : Nat}  (T : TopD K mg "_law_size" ["body"] s__law_size) (c__law_size : CallF P w K mg base "_law_size" 1 k (lowφ 1 φ__law_size d))  :
    CallF P w K mg base "_law_size" 1 (k + 1) (φ__law_size d) := by
  refine call_of (N := N__law_size) (k := k) T sc__law_size fun f cdv A outer s H E hr => ⟨_, (pmss_cons (pms_set (i := 1) (fun W t => ps_set (i := 1) sc__law_size.nd rfl (.inl rfl) (pm_int W t)))
      (pmss_cons (pms_for (passes_of rfl) rfl (pmi_seq (pm_var (pv 0))) (pmg_of (vs := [2]) (pg_name (i := 2) sc__law_size.nd rfl (.inl rfl)))
      (pmss_cons (pms_set (i := 1) (fun W t => ps_set (i := 1) sc__law_size.nd rfl (.inl rfl) ((pm_op od_add (pm_var (pv 1)) pm_int) W t)))
      (pmss_one (pms_if (pmt_cmp (od_eq (Room.hu64 hr)) (pm_ixK (Room.hu1 hr) (pk_var (pv 2)) pm_int (fun _ _ => rfl)) pm_str (nomark _)) (pmss_one (pms_set (i := 1) (fun W t => ps_set (i := 1) sc__law_size.nd rfl (.inl rfl) ((pm_op od_add (pm_op od_add (pm_var (pv 1)) (pm_callF c__law_size hr (by rfl) (pma_cons (pm_ixK (Room.hu1 hr) (pk_var (pv 2)) pm_int (fun _ _ => rfl)) pma_nil))) (pm_callF c__law_size hr (by rfl) (pma_cons (pm_ixK (Room.hu1 hr) (pk_var (pv 2)) pm_int (fun _ _ => rfl)) pma_nil))) W t)))) pmss_nil))))
      (pmss_one (pms_ret (pm_var (pv 1)))))), ?_⟩
  rintro ds Wo Q E' - ⟨b, rfl, hb, q⟩
  walk_at "pls"
  rw [encSs_map]
  refine forW_list encS (fun r S => ∃ b0 s2, b = b0 ++ r ∧ (∀ x ∈ r, okS d x = true) ∧ S = ⟨[.val (.tup (encSs b)), .val (.int (listedB b0).length), s2], Wo⟩) ?_ ?_ b _ ⟨[], .emp, rfl, (okB_iff.mp hb).2, by rw [encSs_map]; rfl⟩
  · rintro S ⟨b0, s2, e, _, rfl⟩
    walk_at "pls"
    rw [List.append_nil] at e
    exact e ▸ q
  · rintro s r S K' ⟨b0, s2, e, ho, rfl⟩ hK
    have hs := ho s (List.mem_cons_self ..)
    have done : ∀ i : Int, i = (listedB b0).length + (listedS s).length → K' ⟨[.val (.tup (encSs b)), .val (.int i), .val (encS s)], Wo⟩ := fun i hi => hK _ ⟨b0 ++ [s], .val (encS s), by rw [e]; simp, fun x hx => ho x (List.mem_cons_of_mem _ hx), by
      have e1 : listedB (b0 ++ [s]) = listedB b0 ++ listedS s := by rw [listedB_append, listedB, listedB, List.append_nil]
      subst hi; rw [e1, List.length_append, Int.natCast_add]⟩
    walk_at "pls"
    have g1 : D.good (.str "if") = true := by decide +kernel
    cases s with
    | ite t x y =>
      cases d with
      | zero => simp [okS] at hs
      | succ d =>
        obtain ⟨_, hx, hy⟩ := okS_ite.mp hs
        try simp only [encS, g1, Nat.add_sub_cancel, ↓pC, ↓pOp, ↓pUn, ↓pSl, ↓pPart, ↓pNil, ↓pCons, ↓pTup, ↓pLst, ↓pCallB, ↓pTest, ↓pNot, ↓pAnd, ↓pOr, ↓pAndV, ↓pOrV, ↓pNotV, ↓pIf, ↓pNext, ↓pSeq, ↓pBreak, ↓pCont, ↓pDrop, ↓pRet, ↓pRetN, ↓pIfS, ↓pgNil, ↓pgCons, ↓pgTup, ↓pAsg, ↓pRaise, ↓pCall, ↓pIter, ↓pFor, ↓pLc, ↓pYes, ↓pkOf, ↓pIxK, ↓pTabG, ↓pLenK, ↓pChain, ↓pStore, ↓pAppend, ↓pPop, ↓poLst, ↓poDct, ↓pNewW, ↓pRng1, ↓pRng2, ↓pTry, ↓pTryAs, ↓oEq, ↓oNe, ↓oLen, ↓oSum, ↓oAll, ↓oAny, ↓oIsi, start0, List.map_cons, List.map_nil, List.length_cons, List.length_nil, List.cons_append, List.nil_append, List.getElem?_cons_zero, List.getElem?_cons_succ, List.set_cons_zero, List.set_cons_succ, List.replicate, D.bl.injEq, D.int.injEq, D.str.injEq, D.tup.injEq, D.lst.injEq, exists_eq_left', exists_eq_left, Option.some.injEq, Bool.false_eq_true, if_true, if_false, true_and, and_true, false_and, and_false, isi_int, isi_bool, isi_str, isi_tuple, isi_list, isiT_int, isiT_bool, isiT_str, isiT_tuple, isiT_list, Bool.not_true, Bool.not_false, dat_non, dat_bl, dat_int, dat_str, dat_tup, dat_lst, isInt_non, isInt_bl, isInt_int, isInt_str, isInt_tup, isInt_lst, isBool_non, isBool_bl, isBool_int, isBool_str, isBool_tup, isBool_lst, isStr_non, isStr_bl, isStr_int, isStr_str, isStr_tup, isStr_lst, isTup_non, isTup_bl, isTup_int, isTup_str, isTup_tup, isTup_lst, isLst_non, isLst_bl, isLst_int, isLst_str, isLst_tup, isLst_lst, Nat.reduceAdd, Nat.zero_add, sz_0, sz_1, sz_2, sz_3, sz_4, sz_5, sz_6, sz_7, sz_8, sz_9, sz_10, sz_11, sz_12, List.any_cons, List.any_nil, eqD_tup, eqD_str, eqD_int, eqDs_cons, eqDs_nil, eqDs_cn, eqDs_nc, Bool.or_false, Bool.and_true, at0, at1, at2, at3, at4, good_int, good_bl, good_nil, good_nilL, good_non, eqDs_nil_r, eqDs_nil_l, List.isEmpty_nil, List.isEmpty_cons, Bool.and_false, Bool.or_true, Bool.false_or, Bool.true_or, Bool.false_and, Bool.true_and, encB, wipS_mk, List.foldr_cons, List.foldr_nil, con_updW, ↓ixC_ownD, ↓oIx_tup, ↓oIx_lst, ↓oIx_str, ↓lenC_ownL, ↓lenC_ownD, ↓setC_ownD, putC_adr, Own_lst_inj, Con_own_inj, updW_upd, Nat.reduceSub, Nat.sub_self, ↓itD_lst, ↓itD_tup, ↓oInt_i, ↓oCmp_i, ↓oAdd_i, ↓oAdd_s, ↓oAdd_t, ↓oAdd_l, ↓oNeg_i, ↓o1I_i, ↓o2I_i, ↓oSl_t, ↓oSl_l, ↓oList_t, ↓oList_l, ↓oTuple_t, ↓oTuple_l, ↓oIn_t, ↓oIn_l, ↓oIsN_n, ↓ixC_ownLi, ↓setC_ownLi, ixN20, ixN21, ex_int1, ex_int2, ↓pSet_eq, ↓ixK_tup, ↓ixK_lst, ↓ixK_str, ↓ixK_dct, ↓lenK_tup, ↓lenK_lst, ↓lenK_str, ↓pSetO_eq, ↓pPar_eq, ↓kPar_mk, ↓pGet2, ↓pFrzO_eq, ↓kFrz_lst, ↓kFrz_dct, ↓pPairs_nil, ↓pPairs_cons, ↓poDisp, ↓getC_val, isDc_val, ↓poCat, ↓catD_l, ↓pVarV0, ↓pVarV1, ↓pVarV2, ↓pVarL0, ↓pVarL1, ↓pVarL2, ↓pVarD0, ↓pVarD1, ↓pVarD2, ↓pkVarV0, ↓pkVarV1, ↓pkVarV2, ↓pkVarO0, ↓pkVarO1, ↓pkVarO2, ↓kSetN0, ↓kSetN1, ↓kSetN2, ↓kSetO_N0, ↓kSetO_N1, ↓kSetO_N2, ↓pgNameN0, ↓pgNameN1, ↓pgNameN2, ↓ixS0, ↓ixS1, ↓ixS2, ↓lenS0, ↓lenS1, ↓lenS2, ↓setS0, ↓setS1, ↓setS2, ↓conS0, ↓conS1, ↓conS2, ↓putS0, ↓putS1, ↓putS2]
        refine ite2 (fun _ => ?_) (fun c => absurd rfl c)
        refine ⟨by omega, x, rfl, hx, ?_⟩
        walk_at "pls"
        refine ⟨by omega, y, rfl, hy, ?_⟩
        walk_at "pls"
        exact done _ (by simp only [listedS, List.length_cons, List.length_append]; omega)
    | _ =>
      try simp only [encS, g1, ↓pC, ↓pOp, ↓pUn, ↓pSl, ↓pPart, ↓pNil, ↓pCons, ↓pTup, ↓pLst, ↓pCallB, ↓pTest, ↓pNot, ↓pAnd, ↓pOr, ↓pAndV, ↓pOrV, ↓pNotV, ↓pIf, ↓pNext, ↓pSeq, ↓pBreak, ↓pCont, ↓pDrop, ↓pRet, ↓pRetN, ↓pIfS, ↓pgNil, ↓pgCons, ↓pgTup, ↓pAsg, ↓pRaise, ↓pCall, ↓pIter, ↓pFor, ↓pLc, ↓pYes, ↓pkOf, ↓pIxK, ↓pTabG, ↓pLenK, ↓pChain, ↓pStore, ↓pAppend, ↓pPop, ↓poLst, ↓poDct, ↓pNewW, ↓pRng1, ↓pRng2, ↓pTry, ↓pTryAs, ↓oEq, ↓oNe, ↓oLen, ↓oSum, ↓oAll, ↓oAny, ↓oIsi, start0, List.map_cons, List.map_nil, List.length_cons, List.length_nil, List.cons_append, List.nil_append, List.getElem?_cons_zero, List.getElem?_cons_succ, List.set_cons_zero, List.set_cons_succ, List.replicate, D.bl.injEq, D.int.injEq, D.str.injEq, D.tup.injEq, D.lst.injEq, exists_eq_left', exists_eq_left, Option.some.injEq, Bool.false_eq_true, if_true, if_false, true_and, and_true, false_and, and_false, isi_int, isi_bool, isi_str, isi_tuple, isi_list, isiT_int, isiT_bool, isiT_str, isiT_tuple, isiT_list, Bool.not_true, Bool.not_false, dat_non, dat_bl, dat_int, dat_str, dat_tup, dat_lst, isInt_non, isInt_bl, isInt_int, isInt_str, isInt_tup, isInt_lst, isBool_non, isBool_bl, isBool_int, isBool_str, isBool_tup, isBool_lst, isStr_non, isStr_bl, isStr_int, isStr_str, isStr_tup, isStr_lst, isTup_non, isTup_bl, isTup_int, isTup_str, isTup_tup, isTup_lst, isLst_non, isLst_bl, isLst_int, isLst_str, isLst_tup, isLst_lst, Nat.reduceAdd, Nat.zero_add, sz_0, sz_1, sz_2, sz_3, sz_4, sz_5, sz_6, sz_7, sz_8, sz_9, sz_10, sz_11, sz_12, List.any_cons, List.any_nil, eqD_tup, eqD_str, eqD_int, eqDs_cons, eqDs_nil, eqDs_cn, eqDs_nc, Bool.or_false, Bool.and_true, at0, at1, at2, at3, at4, good_int, good_bl, good_nil, good_nilL, good_non, eqDs_nil_r, eqDs_nil_l, List.isEmpty_nil, List.isEmpty_cons, Bool.and_false, Bool.or_true, Bool.false_or, Bool.true_or, Bool.false_and, Bool.true_and, encB, wipS_mk, List.foldr_cons, List.foldr_nil, con_updW, ↓ixC_ownD, ↓oIx_tup, ↓oIx_lst, ↓oIx_str, ↓lenC_ownL, ↓lenC_ownD, ↓setC_ownD, putC_adr, Own_lst_inj, Con_own_inj, updW_upd, Nat.reduceSub, Nat.sub_self, ↓itD_lst, ↓itD_tup, ↓oInt_i, ↓oCmp_i, ↓oAdd_i, ↓oAdd_s, ↓oAdd_t, ↓oAdd_l, ↓oNeg_i, ↓o1I_i, ↓o2I_i, ↓oSl_t, ↓oSl_l, ↓oList_t, ↓oList_l, ↓oTuple_t, ↓oTuple_l, ↓oIn_t, ↓oIn_l, ↓oIsN_n, ↓ixC_ownLi, ↓setC_ownLi, ixN20, ixN21, ex_int1, ex_int2, ↓pSet_eq, ↓ixK_tup, ↓ixK_lst, ↓ixK_str, ↓ixK_dct, ↓lenK_tup, ↓lenK_lst, ↓lenK_str, ↓pSetO_eq, ↓pPar_eq, ↓kPar_mk, ↓pGet2, ↓pFrzO_eq, ↓kFrz_lst, ↓kFrz_dct, ↓pPairs_nil, ↓pPairs_cons, ↓poDisp, ↓getC_val, isDc_val, ↓poCat, ↓catD_l, ↓pVarV0, ↓pVarV1, ↓pVarV2, ↓pVarL0, ↓pVarL1, ↓pVarL2, ↓pVarD0, ↓pVarD1, ↓pVarD2, ↓pkVarV0, ↓pkVarV1, ↓pkVarV2, ↓pkVarO0, ↓pkVarO1, ↓pkVarO2, ↓kSetN0, ↓kSetN1, ↓kSetN2, ↓kSetO_N0, ↓kSetO_N1, ↓kSetO_N2, ↓pgNameN0, ↓pgNameN1, ↓pgNameN2, ↓ixS0, ↓ixS1, ↓ixS2, ↓lenS0, ↓lenS1, ↓lenS2, ↓setS0, ↓setS1, ↓setS2, ↓conS0, ↓conS1, ↓conS2, ↓putS0, ↓putS1, ↓putS2]
      refine ⟨by decide +kernel, ite2 (fun c => absurd c (by decide +kernel)) (fun _ => done _ rfl)⟩
abbrev s__law_known : Stmt := topS 77
abbrev N__law_known : List Str := ["source", "n", "m", "some"]
theorem sc__law_known : FnScope N__law_known ["source"] (defScope s__law_known) := ⟨rfl, rfl, rfl, by decide +kernel, rfl, by decide +kernel, by decide +kernel⟩
theorem ok__law_known  {k : Nat}  (T : TopD K mg "_law_known" ["source"] s__law_known) (c__law_of : CallF P w K mg base "_law_of" 2 k (φ__law_of)) (c__law_draw : CallF P w K mg base "_law_draw" 2 k (φ__law_draw))  :
    CallF P w K mg base "_law_known" 1 (k + 1) (φ__law_known) := by
  refine call_of (N := N__law_known) (k := k) T sc__law_known fun f cdv A outer s H E hr => ⟨_, (pmss_cons (pms_par (i := 1) (j := 2) (fun W t => ps_par (i := 1) (j := 2) rfl sc__law_known.nd rfl rfl (by decide) rfl rfl ((pma_cons (pm_op od_add pm_int (pm_callF c__law_draw hr (by rfl) (pma_cons (pm_var (pv 0)) (pma_cons pm_int pma_nil)))) (pma_cons (pm_op od_add pm_int (pm_callF c__law_draw hr (by rfl) (pma_cons (pm_var (pv 0)) (pma_cons pm_int pma_nil)))) pma_nil)) W t) (by rfl)))
      (pmss_cons (pms_set (i := 3) (fun W t => ps_set (i := 3) sc__law_known.nd rfl (.inl rfl) ((pm_lst (pma_cons (pm_tup (pma_cons (pm_tup (pma_cons pm_str pma_nil)) (pma_cons (pm_tup (pma_cons pm_str (pma_cons (pm_var (pv 1)) pma_nil))) pma_nil))) (pma_cons (pm_tup (pma_cons (pm_tup (pma_cons pm_str pma_nil)) (pma_cons (pm_tup (pma_cons pm_str (pma_cons (pm_var (pv 1)) pma_nil))) pma_nil))) (pma_cons (pm_tup (pma_cons (pm_tup (pma_cons pm_str (pma_cons (pm_var (pv 1)) pma_nil))) pma_nil)) (pma_cons (pm_tup (pma_cons (pm_tup (pma_cons pm_str (pma_cons (pm_var (pv 2)) pma_nil))) pma_nil)) pma_nil))))) W t)))
      (pmss_cons (pms_set (i := 3) (fun W t => ps_set (i := 3) sc__law_known.nd rfl (.inl rfl) ((pm_op od_add (pm_var (pv 3)) (pm_lst (pma_cons (pm_tup (pma_cons (pm_tup (pma_cons pm_str pma_nil)) (pma_cons (pm_tup (pma_cons pm_str (pma_cons (pm_var (pv 1)) pma_nil))) pma_nil))) (pma_cons (pm_tup (pma_cons (pm_tup (pma_cons pm_str (pma_cons (pm_var (pv 1)) pma_nil))) (pma_cons (pm_tup (pma_cons pm_str pma_nil)) (pma_cons (pm_tup (pma_cons pm_str (pma_cons (pm_tup (pma_cons pm_str pma_nil)) (pma_cons (pm_tup (pma_cons (pm_tup (pma_cons pm_str (pma_cons (pm_var (pv 2)) pma_nil))) pma_nil)) (pma_cons (pm_tup pma_nil) pma_nil))))) pma_nil)))) pma_nil)))) W t)))
      (pmss_cons (pms_set (i := 3) (fun W t => ps_set (i := 3) sc__law_known.nd rfl (.inl rfl) ((pm_op od_add (pm_var (pv 3)) (pm_lst (pma_cons (pm_tup (pma_cons (pm_tup (pma_cons pm_str pma_nil)) (pma_cons (pm_tup (pma_cons pm_str (pma_cons (pm_var (pv 1)) pma_nil))) (pma_cons (pm_tup (pma_cons pm_str (pma_cons (pm_tup (pma_cons pm_str (pma_cons (pm_var (pv 2)) pma_nil))) (pma_cons (pm_tup (pma_cons (pm_tup (pma_cons pm_str (pma_cons pm_int pma_nil))) pma_nil)) (pma_cons (pm_tup pma_nil) pma_nil))))) pma_nil)))) pma_nil))) W t)))
      (pmss_cons (pms_set (i := 3) (fun W t => ps_set (i := 3) sc__law_known.nd rfl (.inl rfl) ((pm_op od_add (pm_var (pv 3)) (pm_lst (pma_cons (pm_tup (pma_cons (pm_tup (pma_cons pm_str (pma_cons (pm_tup (pma_cons pm_str pma_nil)) (pma_cons (pm_tup (pma_cons (pm_tup (pma_cons pm_str (pma_cons (pm_var (pv 1)) pma_nil))) (pma_cons (pm_tup (pma_cons pm_str (pma_cons (pm_var (pv 2)) pma_nil))) pma_nil))) (pma_cons (pm_tup (pma_cons (pm_tup (pma_cons pm_str pma_nil)) (pma_cons (pm_tup (pma_cons pm_str (pma_cons (pm_var (pv 1)) pma_nil))) pma_nil))) pma_nil))))) pma_nil)) pma_nil))) W t)))
      (pmss_cons (pms_set (i := 3) (fun W t => ps_set (i := 3) sc__law_known.nd rfl (.inl rfl) ((pm_op od_add (pm_var (pv 3)) (pm_lst (pma_cons (pm_tup (pma_cons (pm_tup (pma_cons pm_str (pma_cons (pm_var (pv 2)) pma_nil))) (pma_cons (pm_tup (pma_cons pm_str pma_nil)) (pma_cons (pm_tup (pma_cons pm_str (pma_cons (pm_var (pv 1)) pma_nil))) pma_nil)))) pma_nil))) W t)))
      (pmss_cons (pms_set (i := 3) (fun W t => ps_set (i := 3) sc__law_known.nd rfl (.inl rfl) ((pm_op od_add (pm_var (pv 3)) (pm_lst (pma_cons (pm_tup (pma_cons (pm_tup (pma_cons pm_str (pma_cons (pm_tup (pma_cons pm_str pma_nil)) (pma_cons (pm_tup (pma_cons (pm_tup (pma_cons pm_str pma_nil)) (pma_cons (pm_tup (pma_cons pm_str (pma_cons (pm_var (pv 2)) pma_nil))) pma_nil))) (pma_cons (pm_tup (pma_cons (pm_tup (pma_cons pm_str pma_nil)) pma_nil)) pma_nil))))) (pma_cons (pm_tup (pma_cons pm_str pma_nil)) (pma_cons (pm_tup (pma_cons pm_str (pma_cons (pm_var (pv 1)) pma_nil))) pma_nil)))) pma_nil))) W t)))
      (pmss_one (pms_ret (pm_callF c__law_of hr (by rfl) (pma_cons (pm_var (pv 0)) (pma_cons (pm_var (pv 3)) pma_nil)))))))))))), ?_⟩
  rintro ds Wo Q E' - ⟨a, rfl, hs, q⟩
  walk_at "pls"
  refine ⟨a, _, rfl, by decide, by decide, hs, fun n W1 n1 n2 d1 => ?_⟩
  walk_at "pls"
  refine ⟨a, _, rfl, by decide, by decide, d1.src, fun m W2 m1 m2 d2 => ?_⟩
  have dd := d1.trans d2
  walk_at "pls"
  refine ⟨a, _, (knL (1 + n) (1 + m)).map encB, rfl, rfl, by simp [knL], by simp [knL], d2.src, fun x W3 hx d3 => ?_⟩
  obtain ⟨b, hb, rfl⟩ := List.mem_map.mp hx
  obtain ⟨h1, h2⟩ := knL_ok (by omega) (by omega) (by omega) (by omega) b hb
  exact q b W3 h1 h2 (dd.trans d3)
abbrev s__law_bent : Stmt := topS 78
abbrev N__law_bent : List Str := ["source", "body", "at", "way", "ahead", "behind"]
theorem sc__law_bent : FnScope N__law_bent ["source", "body"] (defScope s__law_bent) := ⟨rfl, rfl, rfl, by decide +kernel, rfl, by decide +kernel, by decide +kernel⟩
theorem ok__law_bent  {k : Nat}  (T : TopD K mg "_law_bent" ["source", "body"] s__law_bent) (c__law_simple : CallF P w K mg base "_law_simple" 1 k (φ__law_simple)) (c__law_draw : CallF P w K mg base "_law_draw" 2 k (φ__law_draw)) (m_len : mg "len" = none)  :
    CallF P w K mg base "_law_bent" 2 (k + 1) (φ__law_bent) := by
  refine call_of (N := N__law_bent) (k := k) T sc__law_bent fun f cdv A outer s H E hr => ⟨_, (pmss_cons (pms_if (pmt_cmp (od_eq (Room.hu64 hr)) (pm_var (pv 1)) (pm_tup pma_nil) (nomark _)) (pmss_one (pms_ret (pm_tup (pma_cons (pm_tup (pma_cons pm_str (pma_cons pm_int pma_nil))) pma_nil)))) pmss_nil)
      (pmss_cons (pms_par (i := 2) (j := 3) (fun W t => ps_par (i := 2) (j := 3) rfl sc__law_bent.nd rfl rfl (by decide) rfl rfl ((pma_cons (pm_callF c__law_draw hr (by rfl) (pma_cons (pm_var (pv 0)) (pma_cons (pm_lenK (by rfl) m_len (pk_var (pv 1))) pma_nil))) (pma_cons (pm_callF c__law_draw hr (by rfl) (pma_cons (pm_var (pv 0)) (pma_cons pm_int pma_nil))) pma_nil)) W t) (by rfl)))
      (pmss_cons (pms_par (i := 4) (j := 5) (fun W t => ps_par (i := 4) (j := 5) rfl sc__law_bent.nd rfl rfl (by decide) rfl rfl ((pma_cons (pm_slice sld (pm_var (pv 1)) (.inl ⟨rfl, rfl⟩) (.inr ⟨_, _, rfl, rfl, (pm_var (pv 2))⟩)) (pma_cons (pm_slice sld (pm_var (pv 1)) (.inr ⟨_, _, rfl, rfl, (pm_op od_add (pm_var (pv 2)) pm_int)⟩) (.inl ⟨rfl, rfl⟩)) pma_nil)) W t) (by rfl)))
      (pmss_cons (pms_if (pmt_cmp (od_eq (Room.hu64 hr)) (pm_var (pv 3)) pm_int (nomark _)) (pmss_one (pms_ret (pm_op od_add (pm_var (pv 4)) (pm_var (pv 5))))) pmss_nil)
      (pmss_cons (pms_if (pmt_cmp (od_eq (Room.hu64 hr)) (pm_var (pv 3)) pm_int (nomark _)) (pmss_one (pms_ret (pm_op od_add (pm_op od_add (pm_op od_add (pm_var (pv 4)) (pm_slice sld (pm_var (pv 5)) (.inl ⟨rfl, rfl⟩) (.inr ⟨_, _, rfl, rfl, pm_int⟩))) (pm_tup (pma_cons (pm_ixK (Room.hu1 hr) (pk_var (pv 1)) (pm_var (pv 2)) (fun _ _ => rfl)) pma_nil))) (pm_slice sld (pm_var (pv 5)) (.inr ⟨_, _, rfl, rfl, pm_int⟩) (.inl ⟨rfl, rfl⟩))))) pmss_nil)
      (pmss_one (pms_ret (pm_op od_add (pm_op od_add (pm_var (pv 4)) (pm_tup (pma_cons (pm_callF c__law_simple hr (by rfl) (pma_cons (pm_var (pv 0)) pma_nil)) pma_nil))) (pm_var (pv 5)))))))))), ?_⟩
  rintro ds Wo Q E' - ⟨a, b, rfl, hb, h7, hs, q⟩
  have g0 : D.good (.tup (encSs b)) = true := good_B hb
  have hl : (encSs b).length = b.length := by rw [encSs_map, List.length_map]
  have hbo := (okB_iff.mp hb).2
  try simp only [g0, ↓pC, ↓pOp, ↓pUn, ↓pSl, ↓pPart, ↓pNil, ↓pCons, ↓pTup, ↓pLst, ↓pCallB, ↓pTest, ↓pNot, ↓pAnd, ↓pOr, ↓pAndV, ↓pOrV, ↓pNotV, ↓pIf, ↓pNext, ↓pSeq, ↓pBreak, ↓pCont, ↓pDrop, ↓pRet, ↓pRetN, ↓pIfS, ↓pgNil, ↓pgCons, ↓pgTup, ↓pAsg, ↓pRaise, ↓pCall, ↓pIter, ↓pFor, ↓pLc, ↓pYes, ↓pkOf, ↓pIxK, ↓pTabG, ↓pLenK, ↓pChain, ↓pStore, ↓pAppend, ↓pPop, ↓poLst, ↓poDct, ↓pNewW, ↓pRng1, ↓pRng2, ↓pTry, ↓pTryAs, ↓oEq, ↓oNe, ↓oLen, ↓oSum, ↓oAll, ↓oAny, ↓oIsi, start0, List.map_cons, List.map_nil, List.length_cons, List.length_nil, List.cons_append, List.nil_append, List.getElem?_cons_zero, List.getElem?_cons_succ, List.set_cons_zero, List.set_cons_succ, List.replicate, D.bl.injEq, D.int.injEq, D.str.injEq, D.tup.injEq, D.lst.injEq, exists_eq_left', exists_eq_left, Option.some.injEq, Bool.false_eq_true, if_true, if_false, true_and, and_true, false_and, and_false, isi_int, isi_bool, isi_str, isi_tuple, isi_list, isiT_int, isiT_bool, isiT_str, isiT_tuple, isiT_list, Bool.not_true, Bool.not_false, dat_non, dat_bl, dat_int, dat_str, dat_tup, dat_lst, isInt_non, isInt_bl, isInt_int, isInt_str, isInt_tup, isInt_lst, isBool_non, isBool_bl, isBool_int, isBool_str, isBool_tup, isBool_lst, isStr_non, isStr_bl, isStr_int, isStr_str, isStr_tup, isStr_lst, isTup_non, isTup_bl, isTup_int, isTup_str, isTup_tup, isTup_lst, isLst_non, isLst_bl, isLst_int, isLst_str, isLst_tup, isLst_lst, Nat.reduceAdd, Nat.zero_add, sz_0, sz_1, sz_2, sz_3, sz_4, sz_5, sz_6, sz_7, sz_8, sz_9, sz_10, sz_11, sz_12, List.any_cons, List.any_nil, eqD_tup, eqD_str, eqD_int, eqDs_cons, eqDs_nil, eqDs_cn, eqDs_nc, Bool.or_false, Bool.and_true, at0, at1, at2, at3, at4, good_int, good_bl, good_nil, good_nilL, good_non, eqDs_nil_r, eqDs_nil_l, List.isEmpty_nil, List.isEmpty_cons, Bool.and_false, Bool.or_true, Bool.false_or, Bool.true_or, Bool.false_and, Bool.true_and, encB, wipS_mk, List.foldr_cons, List.foldr_nil, con_updW, ↓ixC_ownD, ↓oIx_tup, ↓oIx_lst, ↓oIx_str, ↓lenC_ownL, ↓lenC_ownD, ↓setC_ownD, putC_adr, Own_lst_inj, Con_own_inj, updW_upd, Nat.reduceSub, Nat.sub_self, ↓itD_lst, ↓itD_tup, ↓oInt_i, ↓oCmp_i, ↓oAdd_i, ↓oAdd_s, ↓oAdd_t, ↓oAdd_l, ↓oNeg_i, ↓o1I_i, ↓o2I_i, ↓oSl_t, ↓oSl_l, ↓oList_t, ↓oList_l, ↓oTuple_t, ↓oTuple_l, ↓oIn_t, ↓oIn_l, ↓oIsN_n, ↓ixC_ownLi, ↓setC_ownLi, ixN20, ixN21, ex_int1, ex_int2, ↓pSet_eq, ↓ixK_tup, ↓ixK_lst, ↓ixK_str, ↓ixK_dct, ↓lenK_tup, ↓lenK_lst, ↓lenK_str, ↓pSetO_eq, ↓pPar_eq, ↓kPar_mk, ↓pGet2, ↓pFrzO_eq, ↓kFrz_lst, ↓kFrz_dct, ↓pPairs_nil, ↓pPairs_cons, ↓poDisp, ↓getC_val, isDc_val, ↓poCat, ↓catD_l, ↓pVarV0, ↓pVarV1, ↓pVarV2, ↓pVarV3, ↓pVarV4, ↓pVarV5, ↓pVarL0, ↓pVarL1, ↓pVarL2, ↓pVarL3, ↓pVarL4, ↓pVarL5, ↓pVarD0, ↓pVarD1, ↓pVarD2, ↓pVarD3, ↓pVarD4, ↓pVarD5, ↓pkVarV0, ↓pkVarV1, ↓pkVarV2, ↓pkVarV3, ↓pkVarV4, ↓pkVarV5, ↓pkVarO0, ↓pkVarO1, ↓pkVarO2, ↓pkVarO3, ↓pkVarO4, ↓pkVarO5, ↓kSetN0, ↓kSetN1, ↓kSetN2, ↓kSetN3, ↓kSetN4, ↓kSetN5, ↓kSetO_N0, ↓kSetO_N1, ↓kSetO_N2, ↓kSetO_N3, ↓kSetO_N4, ↓kSetO_N5, ↓pgNameN0, ↓pgNameN1, ↓pgNameN2, ↓pgNameN3, ↓pgNameN4, ↓pgNameN5, ↓ixS0, ↓ixS1, ↓ixS2, ↓ixS3, ↓ixS4, ↓ixS5, ↓lenS0, ↓lenS1, ↓lenS2, ↓lenS3, ↓lenS4, ↓lenS5, ↓setS0, ↓setS1, ↓setS2, ↓setS3, ↓setS4, ↓setS5, ↓conS0, ↓conS1, ↓conS2, ↓conS3, ↓conS4, ↓conS5, ↓putS0, ↓putS1, ↓putS2, ↓putS3, ↓putS4, ↓putS5]
  refine ite2 (fun c => q [.wait 1] _ rfl hs.dr) (fun c => ?_)
  have hp : 0 < b.length := by
    cases b with
    | nil => exact absurd rfl c
    | cons s r => simp
  refine ⟨a, _, rfl, by omega, by omega, hs, fun i W1 i1 i2 d1 => ?_⟩
  refine ⟨a, _, rfl, by decide, by decide, d1.src, fun w W2 w1 w2 d2 => ?_⟩
  have dd := d1.trans d2
  obtain ⟨j, rfl⟩ := Int.eq_ofNat_of_zero_le i1
  have hj : j < b.length := by omega
  walk_at "pls"
  have e1 : (j : Int) + 1 = ((j + 1 : Nat) : Int) := by omega
  have hz : ∀ n : Nat, n ≤ 100 → n ≤ sizeLine := fun n h => by show n ≤ 2 ^ 24; omega
  simp only [e1, cut_toN, cut_fromN, cut_to1, cut_from1, encSs_map]
  simp only [← List.map_take, ← List.map_drop, ← List.map_append, ← List.map_cons, List.length_map, List.length_append, List.length_take, List.length_drop]
  have fin : ∀ (l : List Stm) W', l.length ≤ 8 → (∀ x ∈ l, x ∈ b ∨ okS 3 x = true) → Dr Wo a W' → Q (.tup (l.map encS)) W' := fun l W' h1 h2 h3 => by
    have := q l W' (okB_iff.mpr ⟨h1, fun x hx => (h2 x hx).elim (hbo x) id⟩) h3
    rwa [encB, encSs_map] at this
  have tk : ∀ (n : Nat) (l : List Stm) x, x ∈ l.take n → x ∈ l := fun n l x h => List.mem_of_mem_take h
  have dp : ∀ (n : Nat) (l : List Stm) x, x ∈ l.drop n → x ∈ l := fun n l x h => List.mem_of_mem_drop h
  refine ite2 (fun _ => ?_) (fun _ => ite2 (fun _ => ?_) (fun _ => ?_))
  · refine ⟨hz _ (by omega), fin _ _ (by simp; omega) (fun x hx => .inl ?_) dd⟩
    rcases List.mem_append.mp hx with h | h
    · exact tk _ _ _ h
    · exact dp _ _ _ h
  · refine ⟨hz _ (by omega), encS (b[j]), atI_nat (by rw [List.getElem?_map, List.getElem?_eq_getElem hj]; rfl), hz _ (by omega), hz _ (by simp; omega), ?_⟩
    have e2 : [encS b[j]] = [b[j]].map encS := rfl
    rw [e2, ← List.map_append, ← List.map_append]
    refine fin _ _ (by simp; omega) (fun x hx => .inl ?_) dd
    simp only [List.mem_append, List.mem_singleton] at hx
    rcases hx with ((h | h) | h) | h
    · exact tk _ _ _ h
    · exact dp _ _ _ (tk _ _ _ h)
    · rw [h]; exact List.getElem_mem hj
    · exact dp _ _ _ (dp _ _ _ h)
  · refine ⟨a, rfl, d2.src, fun s W3 hs3 d3 => ?_⟩
    have e2 : [encS s] = [s].map encS := rfl
    refine ⟨hz _ (by omega), hz _ (by simp; omega), ?_⟩
    rw [e2, ← List.map_append, ← List.map_append]
    refine fin _ _ (by simp; omega) (fun x hx => ?_) (dd.trans d3)
    simp only [List.mem_append, List.mem_singleton] at hx
    rcases hx with (h | h) | h
    · exact .inl (tk _ _ _ h)
    · rw [h]; exact .inr (simS_ok hs3 2)
    · exact .inl (dp _ _ _ h)
abbrev s__law_loop : Stmt := topS 79
abbrev N__law_loop : List Str := ["source", "least", "way", "most", "body"]
theorem sc__law_loop : FnScope N__law_loop ["source"] (defScope s__law_loop) := ⟨rfl, rfl, rfl, by decide +kernel, rfl, by decide +kernel, by decide +kernel⟩
theorem ok__law_loop  {k : Nat}  (T : TopD K mg "_law_loop" ["source"] s__law_loop) (c__law_draw : CallF P w K mg base "_law_draw" 2 k (φ__law_draw)) (c__law_size : CallF P w K mg base "_law_size" 1 k (φ__law_size 3)) (c__law_bent : CallF P w K mg base "_law_bent" 2 k (φ__law_bent)) (c__law_known : CallF P w K mg base "_law_known" 1 k (φ__law_known)) (c__law_body : CallF P w K mg base "_law_body" 3 k (φ__law_body 3))  :
    CallF P w K mg base "_law_loop" 1 (k + 1) (φ__law_loop) := by
  refine call_of (N := N__law_loop) (k := k) T sc__law_loop fun f cdv A outer s H E hr => ⟨_, (pmss_cons (pms_par (i := 1) (j := 2) (fun W t => ps_par (i := 1) (j := 2) rfl sc__law_loop.nd rfl rfl (by decide) rfl rfl ((pma_cons (pm_callF c__law_draw hr (by rfl) (pma_cons (pm_var (pv 0)) (pma_cons pm_int pma_nil))) (pma_cons (pm_callF c__law_draw hr (by rfl) (pma_cons (pm_var (pv 0)) (pma_cons pm_int pma_nil))) pma_nil)) W t) (by rfl)))
      (pmss_cons (pms_set (i := 3) (fun W t => ps_set (i := 3) sc__law_loop.nd rfl (.inl rfl) ((pm_op od_add (pm_var (pv 1)) (pm_callF c__law_draw hr (by rfl) (pma_cons (pm_var (pv 0)) (pma_cons pm_int pma_nil)))) W t)))
      (pmss_cons (pms_set (i := 4) (fun W t => ps_set (i := 4) sc__law_loop.nd rfl (.inl rfl) ((pm_ifExp (pmt_cmp od_lt (pm_var (pv 2)) pm_int (nomark _)) (pm_callF c__law_known hr (by rfl) (pma_cons (pm_var (pv 0)) pma_nil)) (pm_callF c__law_body hr (by rfl) (pma_cons (pm_var (pv 0)) (pma_cons pm_int (pma_cons pm_int pma_nil))))) W t)))
      (pmss_cons (pms_if (pmt_w (pmw_or (pmt_cmp (od_eq (Room.hu64 hr)) (pm_var (pv 2)) pm_int (nomark _)) (pmw_or1 (pmt_cmp (od_eq (Room.hu64 hr)) (pm_var (pv 2)) pm_int (nomark _))))) (pmss_one (pms_set (i := 4) (fun W t => ps_set (i := 4) sc__law_loop.nd rfl (.inl rfl) ((pm_callF c__law_bent hr (by rfl) (pma_cons (pm_var (pv 0)) (pma_cons (pm_var (pv 4)) pma_nil))) W t)))) pmss_nil)
      (pmss_cons (pms_if (pmt_cmp od_gt (pm_callF c__law_size hr (by rfl) (pma_cons (pm_var (pv 4)) pma_nil)) pm_int (nomark _)) (pmss_one (pms_set (i := 4) (fun W t => ps_set (i := 4) sc__law_loop.nd rfl (.inl rfl) ((pm_tup (pma_cons (pm_tup (pma_cons pm_str pma_nil)) (pma_cons (pm_tup (pma_cons pm_str (pma_cons pm_int pma_nil))) pma_nil))) W t)))) pmss_nil)
      (pmss_one (pms_ret (pm_tup (pma_cons (pm_var (pv 1)) (pma_cons (pm_var (pv 3)) (pma_cons (pm_callF c__law_draw hr (by rfl) (pma_cons (pm_var (pv 0)) (pma_cons pm_int pma_nil))) (pma_cons (pm_var (pv 4)) pma_nil)))))))))))), ?_⟩
  rintro ds Wo Q E' - ⟨a, rfl, hs, q⟩
  walk_at "pls"
  refine ⟨a, _, rfl, by decide, by decide, hs, fun n W1 n1 n2 d1 => ?_⟩
  refine ⟨a, _, rfl, by decide, by decide, d1.src, fun w W2 w1 w2 d2 => ?_⟩
  walk_at "pls"
  refine ⟨a, _, rfl, by decide, by decide, d2.src, fun m W3 m1 m2 d3 => ?_⟩
  have dd := (d1.trans d2).trans d3
  walk_at "pls"
  refine ite2 (fun _ => ⟨a, rfl, d3.src, fun b W4 hb hl d4 => ?_⟩) (fun _ => ⟨a, _, rfl, by decide, by decide, d3.src, fun b W4 hb hl d4 => ?_⟩)
  · have hb3 : okB 3 b = true := okB_mono hb (by decide)
    have dx := dd.trans d4
    refine ite2 (fun _ => ?_) (fun _ => ite2 (fun _ => ?_) (fun _ => ?_))
    · refine ⟨a, b, rfl, hb3, by omega, dx.src, fun b' W5 hb' d5 => ?_⟩
      have dy := dx.trans d5
      refine ⟨b', rfl, hb', ?_⟩
      walk_at "pls"
      refine ite2 (fun _ => ⟨a, _, rfl, by decide, by decide, dy.src, fun f W9 f1 f2 d9 => ?_⟩) (fun z => ⟨a, _, rfl, by decide, by decide, dy.src, fun f W9 f1 f2 d9 => ?_⟩)
      · exact q ⟨n, n + m, f, [.until, .move 3]⟩ W9 ⟨okL_iff.mpr ⟨⟨by omega, by show n ≤ n + m; omega, by show n + m ≤ 8; omega, f1, by show f ≤ 8; omega⟩, rfl, by show 2 ≤ 12; decide⟩, by show n ≤ 2; omega, by show n + m ≤ n + 3; omega, by show f ≤ 5; omega⟩ (dy.trans d9)
      · have z : (listedB b').length ≤ 12 := by simp only [decide_eq_true_eq] at z; omega
        exact q ⟨n, n + m, f, b'⟩ W9 ⟨okL_iff.mpr ⟨⟨by omega, by show n ≤ n + m; omega, by show n + m ≤ 8; omega, f1, by show f ≤ 8; omega⟩, hb', z⟩, by show n ≤ 2; omega, by show n + m ≤ n + 3; omega, by show f ≤ 5; omega⟩ (dy.trans d9)
    · refine ⟨a, b, rfl, hb3, by omega, dx.src, fun b' W5 hb' d5 => ?_⟩
      have dy := dx.trans d5
      refine ⟨b', rfl, hb', ?_⟩
      walk_at "pls"
      refine ite2 (fun _ => ⟨a, _, rfl, by decide, by decide, dy.src, fun f W9 f1 f2 d9 => ?_⟩) (fun z => ⟨a, _, rfl, by decide, by decide, dy.src, fun f W9 f1 f2 d9 => ?_⟩)
      · exact q ⟨n, n + m, f, [.until, .move 3]⟩ W9 ⟨okL_iff.mpr ⟨⟨by omega, by show n ≤ n + m; omega, by show n + m ≤ 8; omega, f1, by show f ≤ 8; omega⟩, rfl, by show 2 ≤ 12; decide⟩, by show n ≤ 2; omega, by show n + m ≤ n + 3; omega, by show f ≤ 5; omega⟩ (dy.trans d9)
      · have z : (listedB b').length ≤ 12 := by simp only [decide_eq_true_eq] at z; omega
        exact q ⟨n, n + m, f, b'⟩ W9 ⟨okL_iff.mpr ⟨⟨by omega, by show n ≤ n + m; omega, by show n + m ≤ 8; omega, f1, by show f ≤ 8; omega⟩, hb', z⟩, by show n ≤ 2; omega, by show n + m ≤ n + 3; omega, by show f ≤ 5; omega⟩ (dy.trans d9)
    · refine ⟨b, rfl, hb3, ?_⟩
      walk_at "pls"
      refine ite2 (fun _ => ⟨a, _, rfl, by decide, by decide, dx.src, fun f W9 f1 f2 d9 => ?_⟩) (fun z => ⟨a, _, rfl, by decide, by decide, dx.src, fun f W9 f1 f2 d9 => ?_⟩)
      · exact q ⟨n, n + m, f, [.until, .move 3]⟩ W9 ⟨okL_iff.mpr ⟨⟨by omega, by show n ≤ n + m; omega, by show n + m ≤ 8; omega, f1, by show f ≤ 8; omega⟩, rfl, by show 2 ≤ 12; decide⟩, by show n ≤ 2; omega, by show n + m ≤ n + 3; omega, by show f ≤ 5; omega⟩ (dx.trans d9)
      · have z : (listedB b).length ≤ 12 := by simp only [decide_eq_true_eq] at z; omega
        exact q ⟨n, n + m, f, b⟩ W9 ⟨okL_iff.mpr ⟨⟨by omega, by show n ≤ n + m; omega, by show n + m ≤ 8; omega, f1, by show f ≤ 8; omega⟩, hb3, z⟩, by show n ≤ 2; omega, by show n + m ≤ n + 3; omega, by show f ≤ 5; omega⟩ (dx.trans d9)
  · have hb3 : okB 3 b = true := hb
    have dx := dd.trans d4
    refine ite2 (fun _ => ?_) (fun _ => ite2 (fun _ => ?_) (fun _ => ?_))
    · refine ⟨a, b, rfl, hb3, by omega, dx.src, fun b' W5 hb' d5 => ?_⟩
      have dy := dx.trans d5
      refine ⟨b', rfl, hb', ?_⟩
      walk_at "pls"
      refine ite2 (fun _ => ⟨a, _, rfl, by decide, by decide, dy.src, fun f W9 f1 f2 d9 => ?_⟩) (fun z => ⟨a, _, rfl, by decide, by decide, dy.src, fun f W9 f1 f2 d9 => ?_⟩)
      · exact q ⟨n, n + m, f, [.until, .move 3]⟩ W9 ⟨okL_iff.mpr ⟨⟨by omega, by show n ≤ n + m; omega, by show n + m ≤ 8; omega, f1, by show f ≤ 8; omega⟩, rfl, by show 2 ≤ 12; decide⟩, by show n ≤ 2; omega, by show n + m ≤ n + 3; omega, by show f ≤ 5; omega⟩ (dy.trans d9)
      · have z : (listedB b').length ≤ 12 := by simp only [decide_eq_true_eq] at z; omega
        exact q ⟨n, n + m, f, b'⟩ W9 ⟨okL_iff.mpr ⟨⟨by omega, by show n ≤ n + m; omega, by show n + m ≤ 8; omega, f1, by show f ≤ 8; omega⟩, hb', z⟩, by show n ≤ 2; omega, by show n + m ≤ n + 3; omega, by show f ≤ 5; omega⟩ (dy.trans d9)
    · refine ⟨a, b, rfl, hb3, by omega, dx.src, fun b' W5 hb' d5 => ?_⟩
      have dy := dx.trans d5
      refine ⟨b', rfl, hb', ?_⟩
      walk_at "pls"
      refine ite2 (fun _ => ⟨a, _, rfl, by decide, by decide, dy.src, fun f W9 f1 f2 d9 => ?_⟩) (fun z => ⟨a, _, rfl, by decide, by decide, dy.src, fun f W9 f1 f2 d9 => ?_⟩)
      · exact q ⟨n, n + m, f, [.until, .move 3]⟩ W9 ⟨okL_iff.mpr ⟨⟨by omega, by show n ≤ n + m; omega, by show n + m ≤ 8; omega, f1, by show f ≤ 8; omega⟩, rfl, by show 2 ≤ 12; decide⟩, by show n ≤ 2; omega, by show n + m ≤ n + 3; omega, by show f ≤ 5; omega⟩ (dy.trans d9)
      · have z : (listedB b').length ≤ 12 := by simp only [decide_eq_true_eq] at z; omega
        exact q ⟨n, n + m, f, b'⟩ W9 ⟨okL_iff.mpr ⟨⟨by omega, by show n ≤ n + m; omega, by show n + m ≤ 8; omega, f1, by show f ≤ 8; omega⟩, hb', z⟩, by show n ≤ 2; omega, by show n + m ≤ n + 3; omega, by show f ≤ 5; omega⟩ (dy.trans d9)
    · refine ⟨b, rfl, hb3, ?_⟩
      walk_at "pls"
      refine ite2 (fun _ => ⟨a, _, rfl, by decide, by decide, dx.src, fun f W9 f1 f2 d9 => ?_⟩) (fun z => ⟨a, _, rfl, by decide, by decide, dx.src, fun f W9 f1 f2 d9 => ?_⟩)
      · exact q ⟨n, n + m, f, [.until, .move 3]⟩ W9 ⟨okL_iff.mpr ⟨⟨by omega, by show n ≤ n + m; omega, by show n + m ≤ 8; omega, f1, by show f ≤ 8; omega⟩, rfl, by show 2 ≤ 12; decide⟩, by show n ≤ 2; omega, by show n + m ≤ n + 3; omega, by show f ≤ 5; omega⟩ (dx.trans d9)
      · have z : (listedB b).length ≤ 12 := by simp only [decide_eq_true_eq] at z; omega
        exact q ⟨n, n + m, f, b⟩ W9 ⟨okL_iff.mpr ⟨⟨by omega, by show n ≤ n + m; omega, by show n + m ≤ 8; omega, f1, by show f ≤ 8; omega⟩, hb3, z⟩, by show n ≤ 2; omega, by show n + m ≤ n + 3; omega, by show f ≤ 5; omega⟩ (dx.trans d9)
abbrev s__law_cut : Stmt := topS 80
abbrev N__law_cut : List Str := ["body", "first", "gone", "found", "statement", "number", "kept", "here"]
theorem sc__law_cut : FnScope N__law_cut ["body", "first", "gone"] (defScope s__law_cut) := ⟨rfl, rfl, rfl, by decide +kernel, rfl, by decide +kernel, by decide +kernel⟩
theorem ok__law_cut {d : Nat} {k : Nat}  (T : TopD K mg "_law_cut" ["body", "first", "gone"] s__law_cut) (c__law_cut : CallF P w K mg base "_law_cut" 3 k (lowφ 1 φ__law_cut d)) (c__law_size : CallF P w K mg base "_law_size" 1 k (φ__law_size d))  :
    CallF P w K mg base "_law_cut" 3 (k + 1) (φ__law_cut d) := by
  refine call_of (N := N__law_cut) (k := k) T sc__law_cut fun f cdv A outer s H E hr => ⟨_, (pmss_cons (pms_set (i := 3) (fun W t => ps_set (i := 3) sc__law_cut.nd rfl (.inl rfl) ((pm_tup pma_nil) W t)))
      (pmss_cons (pms_for (passes_of rfl) rfl (pmi_seq (pm_var (pv 0))) (pmg_of (vs := [4]) (pg_name (i := 4) sc__law_cut.nd rfl (.inl rfl)))
      (pmss_cons (pms_par (i := 5) (j := 6) (fun W t => ps_par (i := 5) (j := 6) rfl sc__law_cut.nd rfl rfl (by decide) rfl rfl ((pma_cons (pm_var (pv 1)) (pma_cons (pm_var (pv 4)) pma_nil)) W t) (by rfl)))
      (pmss_cons (pms_set (i := 1) (fun W t => ps_set (i := 1) sc__law_cut.nd rfl (.inl rfl) ((pm_op od_add (pm_var (pv 1)) (pm_callF c__law_size hr (by rfl) (pma_cons (pm_tup (pma_cons (pm_var (pv 4)) pma_nil)) pma_nil))) W t)))
      (pmss_cons (pms_if (pmt_cmp (od_eq (Room.hu64 hr)) (pm_ixK (Room.hu1 hr) (pk_var (pv 4)) pm_int (fun _ _ => rfl)) pm_str (nomark _)) (pmss_cons (pms_set (i := 7) (fun W t => ps_set (i := 7) sc__law_cut.nd rfl (.inl rfl) ((pm_op od_add (pm_op od_add (pm_var (pv 5)) pm_int) (pm_callF c__law_size hr (by rfl) (pma_cons (pm_ixK (Room.hu1 hr) (pk_var (pv 4)) pm_int (fun _ _ => rfl)) pma_nil))) W t)))
      (pmss_cons (pms_set (i := 6) (fun W t => ps_set (i := 6) sc__law_cut.nd rfl (.inl rfl) ((pm_op od_add (pm_slice sld (pm_var (pv 4)) (.inl ⟨rfl, rfl⟩) (.inr ⟨_, _, rfl, rfl, pm_int⟩)) (pm_tup (pma_cons (pm_callF c__law_cut hr (by rfl) (pma_cons (pm_ixK (Room.hu1 hr) (pk_var (pv 4)) pm_int (fun _ _ => rfl)) (pma_cons (pm_op od_add (pm_var (pv 5)) pm_int) (pma_cons (pm_var (pv 2)) pma_nil)))) pma_nil))) W t)))
      (pmss_one (pms_set (i := 6) (fun W t => ps_set (i := 6) sc__law_cut.nd rfl (.inl rfl) ((pm_op od_add (pm_var (pv 6)) (pm_tup (pma_cons (pm_callF c__law_cut hr (by rfl) (pma_cons (pm_ixK (Room.hu1 hr) (pk_var (pv 4)) pm_int (fun _ _ => rfl)) (pma_cons (pm_var (pv 7)) (pma_cons (pm_var (pv 2)) pma_nil)))) pma_nil))) W t)))))) pmss_nil)
      (pmss_one (pms_set (i := 3) (fun W t => ps_set (i := 3) sc__law_cut.nd rfl (.inl rfl) ((pm_op od_add (pm_var (pv 3)) (pm_ifExp (pmt_cmp (od_eq (Room.hu64 hr)) (pm_var (pv 5)) (pm_var (pv 2)) (nomark _)) (pm_tup pma_nil) (pm_tup (pma_cons (pm_var (pv 6)) pma_nil)))) W t))))))))
      (pmss_one (pms_ret (pm_var (pv 3)))))), ?_⟩
  rintro ds Wo Q E' - ⟨b, first, gone, rfl, hb, q⟩
  have hl := (okB_iff.mp hb).1
  walk_at "pls"
  rw [encSs_map]
  refine forW_list encS (fun r S => ∃ b0 first' s4 s5 s6 s7, (∀ x ∈ r, okS d x = true) ∧ b0.length + r.length ≤ 8 ∧ woB b first gone = b0 ++ woB r first' gone ∧ S = ⟨[.val (.tup (encSs b)), .val (.int first'), .val (.int gone), .val (.tup (b0.map encS)), s4, s5, s6, s7], Wo⟩) ?_ ?_ b _ ⟨[], first, .emp, .emp, .emp, .emp, (okB_iff.mp hb).2, by simpa using hl, rfl, by rw [encSs_map]; rfl⟩
  · rintro S ⟨b0, first', s4, s5, s6, s7, h1, h2, h3, rfl⟩
    walk_at "pls"
    rw [h3, woB, List.append_nil, encB, encSs_map] at q
    exact q
  · rintro s r S K' ⟨b0, first', s4, s5, s6, s7, h1, h2, h3, rfl⟩ hK
    have hs := h1 s (List.mem_cons_self ..)
    have h8 : b0.length ≤ 7 := by simp only [List.length_cons] at h2; omega
    have fin : ∀ s5 s6 s7, K' ⟨[.val (.tup (encSs b)), .val (.int (first' + (listedS s).length)), .val (.int gone), .val (.tup ((b0 ++ (if first' = gone then [] else [woS s first' gone])).map encS)), .val (encS s), s5, s6, s7], Wo⟩ := fun s5 s6 s7 => hK _ ⟨b0 ++ (if first' = gone then [] else [woS s first' gone]), _, _, _, _, _, fun x hx => h1 x (List.mem_cons_of_mem _ hx), by simp only [List.length_cons] at h2; split <;> simp <;> omega, by rw [h3, woB]; split <;> simp, rfl⟩
    have o1 : okB d [s] = true := okB_iff.mpr ⟨by simp, fun x hx => by rw [List.mem_singleton.mp hx]; exact hs⟩
    have last : ∀ (i : Int) y s7, i = first' + (listedS s).length → y = encS (woS s first' gone) → if (first' == gone) = true then (b0.map encS).length + 0 ≤ sizeLine ∧ K' ⟨[.val (.tup (encSs b)), .val (.int i), .val (.int gone), .val (.tup (b0.map encS ++ [])), .val (encS s), .val (.int first'), .val y, s7], Wo⟩
        else (b0.map encS).length + 1 ≤ sizeLine ∧ K' ⟨[.val (.tup (encSs b)), .val (.int i), .val (.int gone), .val (.tup (b0.map encS ++ [y])), .val (encS s), .val (.int first'), .val y, s7], Wo⟩ := fun i y s7 hi hy => by
      subst hi
      subst hy
      have := fin (.val (.int first')) (.val (encS (woS s first' gone))) s7
      refine ite2 (fun c => ?_) (fun c => ?_)
      · have c : first' = gone := by simpa using c
        rw [if_pos c, List.append_nil] at this
        refine ⟨by show _ ≤ 2 ^ 24; rw [List.length_map]; omega, ?_⟩
        rw [List.append_nil]
        exact this
      · have c : first' ≠ gone := by simpa using c
        rw [if_neg c, List.map_append] at this
        exact ⟨by show _ ≤ 2 ^ 24; rw [List.length_map]; omega, this⟩
    have e1 : listedB [s] = listedS s := by rw [listedB, listedB, List.append_nil]
    walk_at "pls"
    refine ⟨[s], rfl, o1, ?_⟩
    rw [e1]
    have g1 : D.good (.str "if") = true := by decide +kernel
    cases s with
    | ite t x y =>
      cases d with
      | zero => simp [okS] at hs
      | succ d =>
        obtain ⟨_, hx, hy⟩ := okS_ite.mp hs
        have hx' := okB_mono hx (Nat.le_succ d)
        try simp only [encS, g1, Nat.add_sub_cancel, cut_to2, ↓pC, ↓pOp, ↓pUn, ↓pSl, ↓pPart, ↓pNil, ↓pCons, ↓pTup, ↓pLst, ↓pCallB, ↓pTest, ↓pNot, ↓pAnd, ↓pOr, ↓pAndV, ↓pOrV, ↓pNotV, ↓pIf, ↓pNext, ↓pSeq, ↓pBreak, ↓pCont, ↓pDrop, ↓pRet, ↓pRetN, ↓pIfS, ↓pgNil, ↓pgCons, ↓pgTup, ↓pAsg, ↓pRaise, ↓pCall, ↓pIter, ↓pFor, ↓pLc, ↓pYes, ↓pkOf, ↓pIxK, ↓pTabG, ↓pLenK, ↓pChain, ↓pStore, ↓pAppend, ↓pPop, ↓poLst, ↓poDct, ↓pNewW, ↓pRng1, ↓pRng2, ↓pTry, ↓pTryAs, ↓oEq, ↓oNe, ↓oLen, ↓oSum, ↓oAll, ↓oAny, ↓oIsi, start0, List.map_cons, List.map_nil, List.length_cons, List.length_nil, List.cons_append, List.nil_append, List.getElem?_cons_zero, List.getElem?_cons_succ, List.set_cons_zero, List.set_cons_succ, List.replicate, D.bl.injEq, D.int.injEq, D.str.injEq, D.tup.injEq, D.lst.injEq, exists_eq_left', exists_eq_left, Option.some.injEq, Bool.false_eq_true, if_true, if_false, true_and, and_true, false_and, and_false, isi_int, isi_bool, isi_str, isi_tuple, isi_list, isiT_int, isiT_bool, isiT_str, isiT_tuple, isiT_list, Bool.not_true, Bool.not_false, dat_non, dat_bl, dat_int, dat_str, dat_tup, dat_lst, isInt_non, isInt_bl, isInt_int, isInt_str, isInt_tup, isInt_lst, isBool_non, isBool_bl, isBool_int, isBool_str, isBool_tup, isBool_lst, isStr_non, isStr_bl, isStr_int, isStr_str, isStr_tup, isStr_lst, isTup_non, isTup_bl, isTup_int, isTup_str, isTup_tup, isTup_lst, isLst_non, isLst_bl, isLst_int, isLst_str, isLst_tup, isLst_lst, Nat.reduceAdd, Nat.zero_add, sz_0, sz_1, sz_2, sz_3, sz_4, sz_5, sz_6, sz_7, sz_8, sz_9, sz_10, sz_11, sz_12, List.any_cons, List.any_nil, eqD_tup, eqD_str, eqD_int, eqDs_cons, eqDs_nil, eqDs_cn, eqDs_nc, Bool.or_false, Bool.and_true, at0, at1, at2, at3, at4, good_int, good_bl, good_nil, good_nilL, good_non, eqDs_nil_r, eqDs_nil_l, List.isEmpty_nil, List.isEmpty_cons, Bool.and_false, Bool.or_true, Bool.false_or, Bool.true_or, Bool.false_and, Bool.true_and, encB, wipS_mk, List.foldr_cons, List.foldr_nil, con_updW, ↓ixC_ownD, ↓oIx_tup, ↓oIx_lst, ↓oIx_str, ↓lenC_ownL, ↓lenC_ownD, ↓setC_ownD, putC_adr, Own_lst_inj, Con_own_inj, updW_upd, Nat.reduceSub, Nat.sub_self, ↓itD_lst, ↓itD_tup, ↓oInt_i, ↓oCmp_i, ↓oAdd_i, ↓oAdd_s, ↓oAdd_t, ↓oAdd_l, ↓oNeg_i, ↓o1I_i, ↓o2I_i, ↓oSl_t, ↓oSl_l, ↓oList_t, ↓oList_l, ↓oTuple_t, ↓oTuple_l, ↓oIn_t, ↓oIn_l, ↓oIsN_n, ↓ixC_ownLi, ↓setC_ownLi, ixN20, ixN21, ex_int1, ex_int2, ↓pSet_eq, ↓ixK_tup, ↓ixK_lst, ↓ixK_str, ↓ixK_dct, ↓lenK_tup, ↓lenK_lst, ↓lenK_str, ↓pSetO_eq, ↓pPar_eq, ↓kPar_mk, ↓pGet2, ↓pFrzO_eq, ↓kFrz_lst, ↓kFrz_dct, ↓pPairs_nil, ↓pPairs_cons, ↓poDisp, ↓getC_val, isDc_val, ↓poCat, ↓catD_l, ↓pVarV0, ↓pVarV1, ↓pVarV2, ↓pVarV3, ↓pVarV4, ↓pVarV5, ↓pVarV6, ↓pVarV7, ↓pVarL0, ↓pVarL1, ↓pVarL2, ↓pVarL3, ↓pVarL4, ↓pVarL5, ↓pVarL6, ↓pVarL7, ↓pVarD0, ↓pVarD1, ↓pVarD2, ↓pVarD3, ↓pVarD4, ↓pVarD5, ↓pVarD6, ↓pVarD7, ↓pkVarV0, ↓pkVarV1, ↓pkVarV2, ↓pkVarV3, ↓pkVarV4, ↓pkVarV5, ↓pkVarV6, ↓pkVarV7, ↓pkVarO0, ↓pkVarO1, ↓pkVarO2, ↓pkVarO3, ↓pkVarO4, ↓pkVarO5, ↓pkVarO6, ↓pkVarO7, ↓kSetN0, ↓kSetN1, ↓kSetN2, ↓kSetN3, ↓kSetN4, ↓kSetN5, ↓kSetN6, ↓kSetN7, ↓kSetO_N0, ↓kSetO_N1, ↓kSetO_N2, ↓kSetO_N3, ↓kSetO_N4, ↓kSetO_N5, ↓kSetO_N6, ↓kSetO_N7, ↓pgNameN0, ↓pgNameN1, ↓pgNameN2, ↓pgNameN3, ↓pgNameN4, ↓pgNameN5, ↓pgNameN6, ↓pgNameN7, ↓ixS0, ↓ixS1, ↓ixS2, ↓ixS3, ↓ixS4, ↓ixS5, ↓ixS6, ↓ixS7, ↓lenS0, ↓lenS1, ↓lenS2, ↓lenS3, ↓lenS4, ↓lenS5, ↓lenS6, ↓lenS7, ↓setS0, ↓setS1, ↓setS2, ↓setS3, ↓setS4, ↓setS5, ↓setS6, ↓setS7, ↓conS0, ↓conS1, ↓conS2, ↓conS3, ↓conS4, ↓conS5, ↓conS6, ↓conS7, ↓putS0, ↓putS1, ↓putS2, ↓putS3, ↓putS4, ↓putS5, ↓putS6, ↓putS7]
        refine ite2 (fun _ => ?_) (fun c => absurd rfl c)
        refine ⟨x, rfl, hx', ?_⟩
        try simp only [encS, g1, Nat.add_sub_cancel, cut_to2, List.take_succ_cons, List.take_zero, ↓pC, ↓pOp, ↓pUn, ↓pSl, ↓pPart, ↓pNil, ↓pCons, ↓pTup, ↓pLst, ↓pCallB, ↓pTest, ↓pNot, ↓pAnd, ↓pOr, ↓pAndV, ↓pOrV, ↓pNotV, ↓pIf, ↓pNext, ↓pSeq, ↓pBreak, ↓pCont, ↓pDrop, ↓pRet, ↓pRetN, ↓pIfS, ↓pgNil, ↓pgCons, ↓pgTup, ↓pAsg, ↓pRaise, ↓pCall, ↓pIter, ↓pFor, ↓pLc, ↓pYes, ↓pkOf, ↓pIxK, ↓pTabG, ↓pLenK, ↓pChain, ↓pStore, ↓pAppend, ↓pPop, ↓poLst, ↓poDct, ↓pNewW, ↓pRng1, ↓pRng2, ↓pTry, ↓pTryAs, ↓oEq, ↓oNe, ↓oLen, ↓oSum, ↓oAll, ↓oAny, ↓oIsi, start0, List.map_cons, List.map_nil, List.length_cons, List.length_nil, List.cons_append, List.nil_append, List.getElem?_cons_zero, List.getElem?_cons_succ, List.set_cons_zero, List.set_cons_succ, List.replicate, D.bl.injEq, D.int.injEq, D.str.injEq, D.tup.injEq, D.lst.injEq, exists_eq_left', exists_eq_left, Option.some.injEq, Bool.false_eq_true, if_true, if_false, true_and, and_true, false_and, and_false, isi_int, isi_bool, isi_str, isi_tuple, isi_list, isiT_int, isiT_bool, isiT_str, isiT_tuple, isiT_list, Bool.not_true, Bool.not_false, dat_non, dat_bl, dat_int, dat_str, dat_tup, dat_lst, isInt_non, isInt_bl, isInt_int, isInt_str, isInt_tup, isInt_lst, isBool_non, isBool_bl, isBool_int, isBool_str, isBool_tup, isBool_lst, isStr_non, isStr_bl, isStr_int, isStr_str, isStr_tup, isStr_lst, isTup_non, isTup_bl, isTup_int, isTup_str, isTup_tup, isTup_lst, isLst_non, isLst_bl, isLst_int, isLst_str, isLst_tup, isLst_lst, Nat.reduceAdd, Nat.zero_add, sz_0, sz_1, sz_2, sz_3, sz_4, sz_5, sz_6, sz_7, sz_8, sz_9, sz_10, sz_11, sz_12, List.any_cons, List.any_nil, eqD_tup, eqD_str, eqD_int, eqDs_cons, eqDs_nil, eqDs_cn, eqDs_nc, Bool.or_false, Bool.and_true, at0, at1, at2, at3, at4, good_int, good_bl, good_nil, good_nilL, good_non, eqDs_nil_r, eqDs_nil_l, List.isEmpty_nil, List.isEmpty_cons, Bool.and_false, Bool.or_true, Bool.false_or, Bool.true_or, Bool.false_and, Bool.true_and, encB, wipS_mk, List.foldr_cons, List.foldr_nil, con_updW, ↓ixC_ownD, ↓oIx_tup, ↓oIx_lst, ↓oIx_str, ↓lenC_ownL, ↓lenC_ownD, ↓setC_ownD, putC_adr, Own_lst_inj, Con_own_inj, updW_upd, Nat.reduceSub, Nat.sub_self, ↓itD_lst, ↓itD_tup, ↓oInt_i, ↓oCmp_i, ↓oAdd_i, ↓oAdd_s, ↓oAdd_t, ↓oAdd_l, ↓oNeg_i, ↓o1I_i, ↓o2I_i, ↓oSl_t, ↓oSl_l, ↓oList_t, ↓oList_l, ↓oTuple_t, ↓oTuple_l, ↓oIn_t, ↓oIn_l, ↓oIsN_n, ↓ixC_ownLi, ↓setC_ownLi, ixN20, ixN21, ex_int1, ex_int2, ↓pSet_eq, ↓ixK_tup, ↓ixK_lst, ↓ixK_str, ↓ixK_dct, ↓lenK_tup, ↓lenK_lst, ↓lenK_str, ↓pSetO_eq, ↓pPar_eq, ↓kPar_mk, ↓pGet2, ↓pFrzO_eq, ↓kFrz_lst, ↓kFrz_dct, ↓pPairs_nil, ↓pPairs_cons, ↓poDisp, ↓getC_val, isDc_val, ↓poCat, ↓catD_l, ↓pVarV0, ↓pVarV1, ↓pVarV2, ↓pVarV3, ↓pVarV4, ↓pVarV5, ↓pVarV6, ↓pVarV7, ↓pVarL0, ↓pVarL1, ↓pVarL2, ↓pVarL3, ↓pVarL4, ↓pVarL5, ↓pVarL6, ↓pVarL7, ↓pVarD0, ↓pVarD1, ↓pVarD2, ↓pVarD3, ↓pVarD4, ↓pVarD5, ↓pVarD6, ↓pVarD7, ↓pkVarV0, ↓pkVarV1, ↓pkVarV2, ↓pkVarV3, ↓pkVarV4, ↓pkVarV5, ↓pkVarV6, ↓pkVarV7, ↓pkVarO0, ↓pkVarO1, ↓pkVarO2, ↓pkVarO3, ↓pkVarO4, ↓pkVarO5, ↓pkVarO6, ↓pkVarO7, ↓kSetN0, ↓kSetN1, ↓kSetN2, ↓kSetN3, ↓kSetN4, ↓kSetN5, ↓kSetN6, ↓kSetN7, ↓kSetO_N0, ↓kSetO_N1, ↓kSetO_N2, ↓kSetO_N3, ↓kSetO_N4, ↓kSetO_N5, ↓kSetO_N6, ↓kSetO_N7, ↓pgNameN0, ↓pgNameN1, ↓pgNameN2, ↓pgNameN3, ↓pgNameN4, ↓pgNameN5, ↓pgNameN6, ↓pgNameN7, ↓ixS0, ↓ixS1, ↓ixS2, ↓ixS3, ↓ixS4, ↓ixS5, ↓ixS6, ↓ixS7, ↓lenS0, ↓lenS1, ↓lenS2, ↓lenS3, ↓lenS4, ↓lenS5, ↓lenS6, ↓lenS7, ↓setS0, ↓setS1, ↓setS2, ↓setS3, ↓setS4, ↓setS5, ↓setS6, ↓setS7, ↓conS0, ↓conS1, ↓conS2, ↓conS3, ↓conS4, ↓conS5, ↓conS6, ↓conS7, ↓putS0, ↓putS1, ↓putS2, ↓putS3, ↓putS4, ↓putS5, ↓putS6, ↓putS7]
        refine ⟨by omega, x, _, _, rfl, hx, ?_⟩
        walk_at "pls"
        refine ⟨by omega, y, _, _, rfl, hy, ?_⟩
        walk_at "pls"
        exact last _ _ _ rfl rfl
    | _ =>
      try simp only [encS, g1, ↓pC, ↓pOp, ↓pUn, ↓pSl, ↓pPart, ↓pNil, ↓pCons, ↓pTup, ↓pLst, ↓pCallB, ↓pTest, ↓pNot, ↓pAnd, ↓pOr, ↓pAndV, ↓pOrV, ↓pNotV, ↓pIf, ↓pNext, ↓pSeq, ↓pBreak, ↓pCont, ↓pDrop, ↓pRet, ↓pRetN, ↓pIfS, ↓pgNil, ↓pgCons, ↓pgTup, ↓pAsg, ↓pRaise, ↓pCall, ↓pIter, ↓pFor, ↓pLc, ↓pYes, ↓pkOf, ↓pIxK, ↓pTabG, ↓pLenK, ↓pChain, ↓pStore, ↓pAppend, ↓pPop, ↓poLst, ↓poDct, ↓pNewW, ↓pRng1, ↓pRng2, ↓pTry, ↓pTryAs, ↓oEq, ↓oNe, ↓oLen, ↓oSum, ↓oAll, ↓oAny, ↓oIsi, start0, List.map_cons, List.map_nil, List.length_cons, List.length_nil, List.cons_append, List.nil_append, List.getElem?_cons_zero, List.getElem?_cons_succ, List.set_cons_zero, List.set_cons_succ, List.replicate, D.bl.injEq, D.int.injEq, D.str.injEq, D.tup.injEq, D.lst.injEq, exists_eq_left', exists_eq_left, Option.some.injEq, Bool.false_eq_true, if_true, if_false, true_and, and_true, false_and, and_false, isi_int, isi_bool, isi_str, isi_tuple, isi_list, isiT_int, isiT_bool, isiT_str, isiT_tuple, isiT_list, Bool.not_true, Bool.not_false, dat_non, dat_bl, dat_int, dat_str, dat_tup, dat_lst, isInt_non, isInt_bl, isInt_int, isInt_str, isInt_tup, isInt_lst, isBool_non, isBool_bl, isBool_int, isBool_str, isBool_tup, isBool_lst, isStr_non, isStr_bl, isStr_int, isStr_str, isStr_tup, isStr_lst, isTup_non, isTup_bl, isTup_int, isTup_str, isTup_tup, isTup_lst, isLst_non, isLst_bl, isLst_int, isLst_str, isLst_tup, isLst_lst, Nat.reduceAdd, Nat.zero_add, sz_0, sz_1, sz_2, sz_3, sz_4, sz_5, sz_6, sz_7, sz_8, sz_9, sz_10, sz_11, sz_12, List.any_cons, List.any_nil, eqD_tup, eqD_str, eqD_int, eqDs_cons, eqDs_nil, eqDs_cn, eqDs_nc, Bool.or_false, Bool.and_true, at0, at1, at2, at3, at4, good_int, good_bl, good_nil, good_nilL, good_non, eqDs_nil_r, eqDs_nil_l, List.isEmpty_nil, List.isEmpty_cons, Bool.and_false, Bool.or_true, Bool.false_or, Bool.true_or, Bool.false_and, Bool.true_and, encB, wipS_mk, List.foldr_cons, List.foldr_nil, con_updW, ↓ixC_ownD, ↓oIx_tup, ↓oIx_lst, ↓oIx_str, ↓lenC_ownL, ↓lenC_ownD, ↓setC_ownD, putC_adr, Own_lst_inj, Con_own_inj, updW_upd, Nat.reduceSub, Nat.sub_self, ↓itD_lst, ↓itD_tup, ↓oInt_i, ↓oCmp_i, ↓oAdd_i, ↓oAdd_s, ↓oAdd_t, ↓oAdd_l, ↓oNeg_i, ↓o1I_i, ↓o2I_i, ↓oSl_t, ↓oSl_l, ↓oList_t, ↓oList_l, ↓oTuple_t, ↓oTuple_l, ↓oIn_t, ↓oIn_l, ↓oIsN_n, ↓ixC_ownLi, ↓setC_ownLi, ixN20, ixN21, ex_int1, ex_int2, ↓pSet_eq, ↓ixK_tup, ↓ixK_lst, ↓ixK_str, ↓ixK_dct, ↓lenK_tup, ↓lenK_lst, ↓lenK_str, ↓pSetO_eq, ↓pPar_eq, ↓kPar_mk, ↓pGet2, ↓pFrzO_eq, ↓kFrz_lst, ↓kFrz_dct, ↓pPairs_nil, ↓pPairs_cons, ↓poDisp, ↓getC_val, isDc_val, ↓poCat, ↓catD_l, ↓pVarV0, ↓pVarV1, ↓pVarV2, ↓pVarV3, ↓pVarV4, ↓pVarV5, ↓pVarV6, ↓pVarV7, ↓pVarL0, ↓pVarL1, ↓pVarL2, ↓pVarL3, ↓pVarL4, ↓pVarL5, ↓pVarL6, ↓pVarL7, ↓pVarD0, ↓pVarD1, ↓pVarD2, ↓pVarD3, ↓pVarD4, ↓pVarD5, ↓pVarD6, ↓pVarD7, ↓pkVarV0, ↓pkVarV1, ↓pkVarV2, ↓pkVarV3, ↓pkVarV4, ↓pkVarV5, ↓pkVarV6, ↓pkVarV7, ↓pkVarO0, ↓pkVarO1, ↓pkVarO2, ↓pkVarO3, ↓pkVarO4, ↓pkVarO5, ↓pkVarO6, ↓pkVarO7, ↓kSetN0, ↓kSetN1, ↓kSetN2, ↓kSetN3, ↓kSetN4, ↓kSetN5, ↓kSetN6, ↓kSetN7, ↓kSetO_N0, ↓kSetO_N1, ↓kSetO_N2, ↓kSetO_N3, ↓kSetO_N4, ↓kSetO_N5, ↓kSetO_N6, ↓kSetO_N7, ↓pgNameN0, ↓pgNameN1, ↓pgNameN2, ↓pgNameN3, ↓pgNameN4, ↓pgNameN5, ↓pgNameN6, ↓pgNameN7, ↓ixS0, ↓ixS1, ↓ixS2, ↓ixS3, ↓ixS4, ↓ixS5, ↓ixS6, ↓ixS7, ↓lenS0, ↓lenS1, ↓lenS2, ↓lenS3, ↓lenS4, ↓lenS5, ↓lenS6, ↓lenS7, ↓setS0, ↓setS1, ↓setS2, ↓setS3, ↓setS4, ↓setS5, ↓setS6, ↓setS7, ↓conS0, ↓conS1, ↓conS2, ↓conS3, ↓conS4, ↓conS5, ↓conS6, ↓conS7, ↓putS0, ↓putS1, ↓putS2, ↓putS3, ↓putS4, ↓putS5, ↓putS6, ↓putS7]
      exact ⟨by decide +kernel, ite2 (fun c => absurd c (by decide +kernel)) (fun _ => last _ _ _ rfl rfl)⟩
abbrev s__law_less : Stmt := topS 81
abbrev N__law_less : List Str := ["loop", "number"]
theorem sc__law_less : FnScope N__law_less ["loop", "number"] (defScope s__law_less) := ⟨rfl, rfl, rfl, by decide +kernel, rfl, by decide +kernel, by decide +kernel⟩
theorem ok__law_less  {k : Nat}  (T : TopD K mg "_law_less" ["loop", "number"] s__law_less) (c__law_cut : CallF P w K mg base "_law_cut" 3 k (φ__law_cut 3))  :
    CallF P w K mg base "_law_less" 2 (k + 1) (φ__law_less) := by
  refine call_of (N := N__law_less) (k := k) T sc__law_less fun f cdv A outer s H E hr => ⟨_, (pmss_one (pms_ret (pm_op od_add (pm_slice sld (pm_var (pv 0)) (.inl ⟨rfl, rfl⟩) (.inr ⟨_, _, rfl, rfl, pm_int⟩)) (pm_tup (pma_cons (pm_callF c__law_cut hr (by rfl) (pma_cons (pm_ixK (Room.hu1 hr) (pk_var (pv 0)) pm_int (fun _ _ => rfl)) (pma_cons pm_int (pma_cons (pm_var (pv 1)) pma_nil)))) pma_nil))))), ?_⟩
  rintro ds Wo Q E' - ⟨L, n, rfl, hL, q⟩
  have hB := (okL_iff.mp hL).2.1
  try simp only [encL, ↓pC, ↓pOp, ↓pUn, ↓pSl, ↓pPart, ↓pNil, ↓pCons, ↓pTup, ↓pLst, ↓pCallB, ↓pTest, ↓pNot, ↓pAnd, ↓pOr, ↓pAndV, ↓pOrV, ↓pNotV, ↓pIf, ↓pNext, ↓pSeq, ↓pBreak, ↓pCont, ↓pDrop, ↓pRet, ↓pRetN, ↓pIfS, ↓pgNil, ↓pgCons, ↓pgTup, ↓pAsg, ↓pRaise, ↓pCall, ↓pIter, ↓pFor, ↓pLc, ↓pYes, ↓pkOf, ↓pIxK, ↓pTabG, ↓pLenK, ↓pChain, ↓pStore, ↓pAppend, ↓pPop, ↓poLst, ↓poDct, ↓pNewW, ↓pRng1, ↓pRng2, ↓pTry, ↓pTryAs, ↓oEq, ↓oNe, ↓oLen, ↓oSum, ↓oAll, ↓oAny, ↓oIsi, start0, List.map_cons, List.map_nil, List.length_cons, List.length_nil, List.cons_append, List.nil_append, List.getElem?_cons_zero, List.getElem?_cons_succ, List.set_cons_zero, List.set_cons_succ, List.replicate, D.bl.injEq, D.int.injEq, D.str.injEq, D.tup.injEq, D.lst.injEq, exists_eq_left', exists_eq_left, Option.some.injEq, Bool.false_eq_true, if_true, if_false, true_and, and_true, false_and, and_false, isi_int, isi_bool, isi_str, isi_tuple, isi_list, isiT_int, isiT_bool, isiT_str, isiT_tuple, isiT_list, Bool.not_true, Bool.not_false, dat_non, dat_bl, dat_int, dat_str, dat_tup, dat_lst, isInt_non, isInt_bl, isInt_int, isInt_str, isInt_tup, isInt_lst, isBool_non, isBool_bl, isBool_int, isBool_str, isBool_tup, isBool_lst, isStr_non, isStr_bl, isStr_int, isStr_str, isStr_tup, isStr_lst, isTup_non, isTup_bl, isTup_int, isTup_str, isTup_tup, isTup_lst, isLst_non, isLst_bl, isLst_int, isLst_str, isLst_tup, isLst_lst, Nat.reduceAdd, Nat.zero_add, sz_0, sz_1, sz_2, sz_3, sz_4, sz_5, sz_6, sz_7, sz_8, sz_9, sz_10, sz_11, sz_12, List.any_cons, List.any_nil, eqD_tup, eqD_str, eqD_int, eqDs_cons, eqDs_nil, eqDs_cn, eqDs_nc, Bool.or_false, Bool.and_true, at0, at1, at2, at3, at4, good_int, good_bl, good_nil, good_nilL, good_non, eqDs_nil_r, eqDs_nil_l, List.isEmpty_nil, List.isEmpty_cons, Bool.and_false, Bool.or_true, Bool.false_or, Bool.true_or, Bool.false_and, Bool.true_and, encB, wipS_mk, List.foldr_cons, List.foldr_nil, con_updW, ↓ixC_ownD, ↓oIx_tup, ↓oIx_lst, ↓oIx_str, ↓lenC_ownL, ↓lenC_ownD, ↓setC_ownD, putC_adr, Own_lst_inj, Con_own_inj, updW_upd, Nat.reduceSub, Nat.sub_self, ↓itD_lst, ↓itD_tup, ↓oInt_i, ↓oCmp_i, ↓oAdd_i, ↓oAdd_s, ↓oAdd_t, ↓oAdd_l, ↓oNeg_i, ↓o1I_i, ↓o2I_i, ↓oSl_t, ↓oSl_l, ↓oList_t, ↓oList_l, ↓oTuple_t, ↓oTuple_l, ↓oIn_t, ↓oIn_l, ↓oIsN_n, ↓ixC_ownLi, ↓setC_ownLi, ixN20, ixN21, ex_int1, ex_int2, ↓pSet_eq, ↓ixK_tup, ↓ixK_lst, ↓ixK_str, ↓ixK_dct, ↓lenK_tup, ↓lenK_lst, ↓lenK_str, ↓pSetO_eq, ↓pPar_eq, ↓kPar_mk, ↓pGet2, ↓pFrzO_eq, ↓kFrz_lst, ↓kFrz_dct, ↓pPairs_nil, ↓pPairs_cons, ↓poDisp, ↓getC_val, isDc_val, ↓poCat, ↓catD_l, ↓pVarV0, ↓pVarV1, ↓pVarL0, ↓pVarL1, ↓pVarD0, ↓pVarD1, ↓pkVarV0, ↓pkVarV1, ↓pkVarO0, ↓pkVarO1, ↓kSetN0, ↓kSetN1, ↓kSetO_N0, ↓kSetO_N1, ↓pgNameN0, ↓pgNameN1, ↓ixS0, ↓ixS1, ↓lenS0, ↓lenS1, ↓setS0, ↓setS1, ↓conS0, ↓conS1, ↓putS0, ↓putS1]
  rw [show (3 : Int) = ((3 : Nat) : Int) from rfl, cut_to _ _ (by simp)]
  refine ⟨L.body, 0, n, rfl, hB, ?_⟩
  walk_at "pls"
  exact ⟨by show _ ≤ 2 ^ 24; simp, q⟩
abbrev s__law_value : Stmt := topS 82
abbrev N__law_value : List Str := ["loop", "value", "statement"]
theorem sc__law_value : FnScope N__law_value ["loop"] (defScope s__law_value) := ⟨rfl, rfl, rfl, by decide +kernel, rfl, by decide +kernel, by decide +kernel⟩
theorem ok__law_value {C_Loop C_InvalidStatement : Addr} {k : Nat}  (T : TopD K mg "_law_value" ["loop"] s__law_value) (i_Loop : InC K C_Loop) (c_Loop_iadd : MetF P w K mg base C_Loop "__iadd__" 2 k (φ_Loop_iadd C_Loop C_InvalidStatement)) (mk_Loop : MkF P w K mg base "Loop" C_Loop k (φStar (φ_Loop_init C_Loop)))  :
    CallF P w K mg base "_law_value" 1 (k + 1 + 1) (φ__law_value C_Loop) := by
  refine call_of (N := N__law_value) (k := k + 1) T sc__law_value fun f cdv A outer s H E hr => ⟨_, (pmss_cons (pms_set (i := 1) (fun W t => ps_set (i := 1) sc__law_value.nd rfl (.inl rfl) ((pm_mkF mk_Loop (hr.mono (by omega)) (by rfl) (pma_cons (pm_ixK (Room.hu1 hr) (pk_var (pv 0)) pm_int (fun _ _ => rfl)) (pma_cons (pm_ixK (Room.hu1 hr) (pk_var (pv 0)) pm_int (fun _ _ => rfl)) (pma_cons (pm_ixK (Room.hu1 hr) (pk_var (pv 0)) pm_int (fun _ _ => rfl)) pma_nil)))) W t)))
      (pmss_cons (pms_for (passes_of rfl) rfl (pmi_seq (pm_ixK (Room.hu1 hr) (pk_var (pv 0)) pm_int (fun _ _ => rfl))) (pmg_of (vs := [2]) (pg_name (i := 2) sc__law_value.nd rfl (.inl rfl)))
      (pmss_one (pms_augOwn (i := 1) (op := .Add) i_Loop c_Loop_iadd (hr.mono (by omega)) sc__law_value.nd rfl (.inl rfl) (pm_var (pv 2)))))
      (pmss_one (pms_ret (pm_var (pv 1)))))), ?_⟩
  rintro ds Wo Q E' - ⟨L, rfl, hL, q⟩
  have ok0 : okL { L with body := [] } = true := okL_pre (b := []) (r := L.body) hL
  try simp only [encL, ↓pMakeP, ↓pC, ↓pOp, ↓pUn, ↓pSl, ↓pPart, ↓pNil, ↓pCons, ↓pTup, ↓pLst, ↓pCallB, ↓pTest, ↓pNot, ↓pAnd, ↓pOr, ↓pAndV, ↓pOrV, ↓pNotV, ↓pIf, ↓pNext, ↓pSeq, ↓pBreak, ↓pCont, ↓pDrop, ↓pRet, ↓pRetN, ↓pIfS, ↓pgNil, ↓pgCons, ↓pgTup, ↓pAsg, ↓pRaise, ↓pCall, ↓pIter, ↓pFor, ↓pLc, ↓pYes, ↓pkOf, ↓pIxK, ↓pTabG, ↓pLenK, ↓pChain, ↓pStore, ↓pAppend, ↓pPop, ↓poLst, ↓poDct, ↓pNewW, ↓pRng1, ↓pRng2, ↓pTry, ↓pTryAs, ↓oEq, ↓oNe, ↓oLen, ↓oSum, ↓oAll, ↓oAny, ↓oIsi, start0, List.map_cons, List.map_nil, List.length_cons, List.length_nil, List.cons_append, List.nil_append, List.getElem?_cons_zero, List.getElem?_cons_succ, List.set_cons_zero, List.set_cons_succ, List.replicate, D.bl.injEq, D.int.injEq, D.str.injEq, D.tup.injEq, D.lst.injEq, exists_eq_left', exists_eq_left, Option.some.injEq, Bool.false_eq_true, if_true, if_false, true_and, and_true, false_and, and_false, isi_int, isi_bool, isi_str, isi_tuple, isi_list, isiT_int, isiT_bool, isiT_str, isiT_tuple, isiT_list, Bool.not_true, Bool.not_false, dat_non, dat_bl, dat_int, dat_str, dat_tup, dat_lst, isInt_non, isInt_bl, isInt_int, isInt_str, isInt_tup, isInt_lst, isBool_non, isBool_bl, isBool_int, isBool_str, isBool_tup, isBool_lst, isStr_non, isStr_bl, isStr_int, isStr_str, isStr_tup, isStr_lst, isTup_non, isTup_bl, isTup_int, isTup_str, isTup_tup, isTup_lst, isLst_non, isLst_bl, isLst_int, isLst_str, isLst_tup, isLst_lst, Nat.reduceAdd, Nat.zero_add, sz_0, sz_1, sz_2, sz_3, sz_4, sz_5, sz_6, sz_7, sz_8, sz_9, sz_10, sz_11, sz_12, List.any_cons, List.any_nil, eqD_tup, eqD_str, eqD_int, eqDs_cons, eqDs_nil, eqDs_cn, eqDs_nc, Bool.or_false, Bool.and_true, at0, at1, at2, at3, at4, good_int, good_bl, good_nil, good_nilL, good_non, eqDs_nil_r, eqDs_nil_l, List.isEmpty_nil, List.isEmpty_cons, Bool.and_false, Bool.or_true, Bool.false_or, Bool.true_or, Bool.false_and, Bool.true_and, encB, wipS_mk, List.foldr_cons, List.foldr_nil, con_updW, ↓ixC_ownD, ↓oIx_tup, ↓oIx_lst, ↓oIx_str, ↓lenC_ownL, ↓lenC_ownD, ↓setC_ownD, putC_adr, Own_lst_inj, Con_own_inj, updW_upd, Nat.reduceSub, Nat.sub_self, ↓itD_lst, ↓itD_tup, ↓oInt_i, ↓oCmp_i, ↓oAdd_i, ↓oAdd_s, ↓oAdd_t, ↓oAdd_l, ↓oNeg_i, ↓o1I_i, ↓o2I_i, ↓oSl_t, ↓oSl_l, ↓oList_t, ↓oList_l, ↓oTuple_t, ↓oTuple_l, ↓oIn_t, ↓oIn_l, ↓oIsN_n, ↓ixC_ownLi, ↓setC_ownLi, ixN20, ixN21, ex_int1, ex_int2, ↓pSet_eq, ↓ixK_tup, ↓ixK_lst, ↓ixK_str, ↓ixK_dct, ↓lenK_tup, ↓lenK_lst, ↓lenK_str, ↓pSetO_eq, ↓pPar_eq, ↓kPar_mk, ↓pGet2, ↓pFrzO_eq, ↓kFrz_lst, ↓kFrz_dct, ↓pPairs_nil, ↓pPairs_cons, ↓poDisp, ↓getC_val, isDc_val, ↓poCat, ↓catD_l, ↓pVarV0, ↓pVarV1, ↓pVarV2, ↓pVarL0, ↓pVarL1, ↓pVarL2, ↓pVarD0, ↓pVarD1, ↓pVarD2, ↓pkVarV0, ↓pkVarV1, ↓pkVarV2, ↓pkVarO0, ↓pkVarO1, ↓pkVarO2, ↓kSetN0, ↓kSetN1, ↓kSetN2, ↓kSetO_N0, ↓kSetO_N1, ↓kSetO_N2, ↓pgNameN0, ↓pgNameN1, ↓pgNameN2, ↓ixS0, ↓ixS1, ↓ixS2, ↓lenS0, ↓lenS1, ↓lenS2, ↓setS0, ↓setS1, ↓setS2, ↓conS0, ↓conS1, ↓conS2, ↓putS0, ↓putS1, ↓putS2]
  refine fun p hp => ⟨.adr p, _, _, _, [], rfl, by decide, p, { L with body := [] }, rfl, ok0, updW_self .., ⟨rfl, ?_⟩⟩
  try simp only [updW_upd, ↓pC, ↓pOp, ↓pUn, ↓pSl, ↓pPart, ↓pNil, ↓pCons, ↓pTup, ↓pLst, ↓pCallB, ↓pTest, ↓pNot, ↓pAnd, ↓pOr, ↓pAndV, ↓pOrV, ↓pNotV, ↓pIf, ↓pNext, ↓pSeq, ↓pBreak, ↓pCont, ↓pDrop, ↓pRet, ↓pRetN, ↓pIfS, ↓pgNil, ↓pgCons, ↓pgTup, ↓pAsg, ↓pRaise, ↓pCall, ↓pIter, ↓pFor, ↓pLc, ↓pYes, ↓pkOf, ↓pIxK, ↓pTabG, ↓pLenK, ↓pChain, ↓pStore, ↓pAppend, ↓pPop, ↓poLst, ↓poDct, ↓pNewW, ↓pRng1, ↓pRng2, ↓pTry, ↓pTryAs, ↓oEq, ↓oNe, ↓oLen, ↓oSum, ↓oAll, ↓oAny, ↓oIsi, start0, List.map_cons, List.map_nil, List.length_cons, List.length_nil, List.cons_append, List.nil_append, List.getElem?_cons_zero, List.getElem?_cons_succ, List.set_cons_zero, List.set_cons_succ, List.replicate, D.bl.injEq, D.int.injEq, D.str.injEq, D.tup.injEq, D.lst.injEq, exists_eq_left', exists_eq_left, Option.some.injEq, Bool.false_eq_true, if_true, if_false, true_and, and_true, false_and, and_false, isi_int, isi_bool, isi_str, isi_tuple, isi_list, isiT_int, isiT_bool, isiT_str, isiT_tuple, isiT_list, Bool.not_true, Bool.not_false, dat_non, dat_bl, dat_int, dat_str, dat_tup, dat_lst, isInt_non, isInt_bl, isInt_int, isInt_str, isInt_tup, isInt_lst, isBool_non, isBool_bl, isBool_int, isBool_str, isBool_tup, isBool_lst, isStr_non, isStr_bl, isStr_int, isStr_str, isStr_tup, isStr_lst, isTup_non, isTup_bl, isTup_int, isTup_str, isTup_tup, isTup_lst, isLst_non, isLst_bl, isLst_int, isLst_str, isLst_tup, isLst_lst, Nat.reduceAdd, Nat.zero_add, sz_0, sz_1, sz_2, sz_3, sz_4, sz_5, sz_6, sz_7, sz_8, sz_9, sz_10, sz_11, sz_12, List.any_cons, List.any_nil, eqD_tup, eqD_str, eqD_int, eqDs_cons, eqDs_nil, eqDs_cn, eqDs_nc, Bool.or_false, Bool.and_true, at0, at1, at2, at3, at4, good_int, good_bl, good_nil, good_nilL, good_non, eqDs_nil_r, eqDs_nil_l, List.isEmpty_nil, List.isEmpty_cons, Bool.and_false, Bool.or_true, Bool.false_or, Bool.true_or, Bool.false_and, Bool.true_and, encB, wipS_mk, List.foldr_cons, List.foldr_nil, con_updW, ↓ixC_ownD, ↓oIx_tup, ↓oIx_lst, ↓oIx_str, ↓lenC_ownL, ↓lenC_ownD, ↓setC_ownD, putC_adr, Own_lst_inj, Con_own_inj, updW_upd, Nat.reduceSub, Nat.sub_self, ↓itD_lst, ↓itD_tup, ↓oInt_i, ↓oCmp_i, ↓oAdd_i, ↓oAdd_s, ↓oAdd_t, ↓oAdd_l, ↓oNeg_i, ↓o1I_i, ↓o2I_i, ↓oSl_t, ↓oSl_l, ↓oList_t, ↓oList_l, ↓oTuple_t, ↓oTuple_l, ↓oIn_t, ↓oIn_l, ↓oIsN_n, ↓ixC_ownLi, ↓setC_ownLi, ixN20, ixN21, ex_int1, ex_int2, ↓pSet_eq, ↓ixK_tup, ↓ixK_lst, ↓ixK_str, ↓ixK_dct, ↓lenK_tup, ↓lenK_lst, ↓lenK_str, ↓pSetO_eq, ↓pPar_eq, ↓kPar_mk, ↓pGet2, ↓pFrzO_eq, ↓kFrz_lst, ↓kFrz_dct, ↓pPairs_nil, ↓pPairs_cons, ↓poDisp, ↓getC_val, isDc_val, ↓poCat, ↓catD_l, ↓pVarV0, ↓pVarV1, ↓pVarV2, ↓pVarL0, ↓pVarL1, ↓pVarL2, ↓pVarD0, ↓pVarD1, ↓pVarD2, ↓pkVarV0, ↓pkVarV1, ↓pkVarV2, ↓pkVarO0, ↓pkVarO1, ↓pkVarO2, ↓kSetN0, ↓kSetN1, ↓kSetN2, ↓kSetO_N0, ↓kSetO_N1, ↓kSetO_N2, ↓pgNameN0, ↓pgNameN1, ↓pgNameN2, ↓ixS0, ↓ixS1, ↓ixS2, ↓lenS0, ↓lenS1, ↓lenS2, ↓setS0, ↓setS1, ↓setS2, ↓conS0, ↓conS1, ↓conS2, ↓putS0, ↓putS1, ↓putS2]
  rw [encSs_map]
  refine forW_list encS (fun r S => ∃ b s0 s2, L.body = b ++ r ∧ S = ⟨[s0, .val (.adr p), s2], updW Wo p (.ins C_Loop ["base"] [encL { L with body := b }])⟩) ?_ ?_ L.body _ ⟨[], _, _, rfl, rfl⟩
  · rintro S ⟨b, s0, s2, e, rfl⟩
    rw [List.append_nil] at e
    walk_at "pls"
    rw [← e]
    exact q p hp
  · rintro s r S K' ⟨b, s0, s2, e, rfl⟩ hK
    have hw : Val (updW Wo p (.ins C_Loop ["base"] [encL { L with body := b }])) C_Loop p { L with body := b } := updW_val
    have hL2 : okL { L with body := b ++ s :: r } = true := by rw [← e]; exact hL
    have hb : okL { L with body := b } = true := okL_pre hL2
    have hb2 : okL (snoc { L with body := b } s) = true := okL_pre (L := L) (b := b ++ [s]) (r := r) (by rw [List.append_assoc]; exact hL2)
    have hs : okS 3 s = true := (okB_iff.mp (okL_iff.mp hb2).2.1).2 s (by show s ∈ b ++ [s]; simp)
    try simp only [↓pAugOwn, ↓pC, ↓pOp, ↓pUn, ↓pSl, ↓pPart, ↓pNil, ↓pCons, ↓pTup, ↓pLst, ↓pCallB, ↓pTest, ↓pNot, ↓pAnd, ↓pOr, ↓pAndV, ↓pOrV, ↓pNotV, ↓pIf, ↓pNext, ↓pSeq, ↓pBreak, ↓pCont, ↓pDrop, ↓pRet, ↓pRetN, ↓pIfS, ↓pgNil, ↓pgCons, ↓pgTup, ↓pAsg, ↓pRaise, ↓pCall, ↓pIter, ↓pFor, ↓pLc, ↓pYes, ↓pkOf, ↓pIxK, ↓pTabG, ↓pLenK, ↓pChain, ↓pStore, ↓pAppend, ↓pPop, ↓poLst, ↓poDct, ↓pNewW, ↓pRng1, ↓pRng2, ↓pTry, ↓pTryAs, ↓oEq, ↓oNe, ↓oLen, ↓oSum, ↓oAll, ↓oAny, ↓oIsi, start0, List.map_cons, List.map_nil, List.length_cons, List.length_nil, List.cons_append, List.nil_append, List.getElem?_cons_zero, List.getElem?_cons_succ, List.set_cons_zero, List.set_cons_succ, List.replicate, D.bl.injEq, D.int.injEq, D.str.injEq, D.tup.injEq, D.lst.injEq, exists_eq_left', exists_eq_left, Option.some.injEq, Bool.false_eq_true, if_true, if_false, true_and, and_true, false_and, and_false, isi_int, isi_bool, isi_str, isi_tuple, isi_list, isiT_int, isiT_bool, isiT_str, isiT_tuple, isiT_list, Bool.not_true, Bool.not_false, dat_non, dat_bl, dat_int, dat_str, dat_tup, dat_lst, isInt_non, isInt_bl, isInt_int, isInt_str, isInt_tup, isInt_lst, isBool_non, isBool_bl, isBool_int, isBool_str, isBool_tup, isBool_lst, isStr_non, isStr_bl, isStr_int, isStr_str, isStr_tup, isStr_lst, isTup_non, isTup_bl, isTup_int, isTup_str, isTup_tup, isTup_lst, isLst_non, isLst_bl, isLst_int, isLst_str, isLst_tup, isLst_lst, Nat.reduceAdd, Nat.zero_add, sz_0, sz_1, sz_2, sz_3, sz_4, sz_5, sz_6, sz_7, sz_8, sz_9, sz_10, sz_11, sz_12, List.any_cons, List.any_nil, eqD_tup, eqD_str, eqD_int, eqDs_cons, eqDs_nil, eqDs_cn, eqDs_nc, Bool.or_false, Bool.and_true, at0, at1, at2, at3, at4, good_int, good_bl, good_nil, good_nilL, good_non, eqDs_nil_r, eqDs_nil_l, List.isEmpty_nil, List.isEmpty_cons, Bool.and_false, Bool.or_true, Bool.false_or, Bool.true_or, Bool.false_and, Bool.true_and, encB, wipS_mk, List.foldr_cons, List.foldr_nil, con_updW, ↓ixC_ownD, ↓oIx_tup, ↓oIx_lst, ↓oIx_str, ↓lenC_ownL, ↓lenC_ownD, ↓setC_ownD, putC_adr, Own_lst_inj, Con_own_inj, updW_upd, Nat.reduceSub, Nat.sub_self, ↓itD_lst, ↓itD_tup, ↓oInt_i, ↓oCmp_i, ↓oAdd_i, ↓oAdd_s, ↓oAdd_t, ↓oAdd_l, ↓oNeg_i, ↓o1I_i, ↓o2I_i, ↓oSl_t, ↓oSl_l, ↓oList_t, ↓oList_l, ↓oTuple_t, ↓oTuple_l, ↓oIn_t, ↓oIn_l, ↓oIsN_n, ↓ixC_ownLi, ↓setC_ownLi, ixN20, ixN21, ex_int1, ex_int2, ↓pSet_eq, ↓ixK_tup, ↓ixK_lst, ↓ixK_str, ↓ixK_dct, ↓lenK_tup, ↓lenK_lst, ↓lenK_str, ↓pSetO_eq, ↓pPar_eq, ↓kPar_mk, ↓pGet2, ↓pFrzO_eq, ↓kFrz_lst, ↓kFrz_dct, ↓pPairs_nil, ↓pPairs_cons, ↓poDisp, ↓getC_val, isDc_val, ↓poCat, ↓catD_l, ↓pVarV0, ↓pVarV1, ↓pVarV2, ↓pVarL0, ↓pVarL1, ↓pVarL2, ↓pVarD0, ↓pVarD1, ↓pVarD2, ↓pkVarV0, ↓pkVarV1, ↓pkVarV2, ↓pkVarO0, ↓pkVarO1, ↓pkVarO2, ↓kSetN0, ↓kSetN1, ↓kSetN2, ↓kSetO_N0, ↓kSetO_N1, ↓kSetO_N2, ↓pgNameN0, ↓pgNameN1, ↓pgNameN2, ↓ixS0, ↓ixS1, ↓ixS2, ↓lenS0, ↓lenS1, ↓lenS2, ↓setS0, ↓setS1, ↓setS2, ↓conS0, ↓conS1, ↓conS2, ↓putS0, ↓putS1, ↓putS2]
    refine ⟨p, rfl, ?_⟩
    try simp only [↓insW_val hw, ↓pC, ↓pOp, ↓pUn, ↓pSl, ↓pPart, ↓pNil, ↓pCons, ↓pTup, ↓pLst, ↓pCallB, ↓pTest, ↓pNot, ↓pAnd, ↓pOr, ↓pAndV, ↓pOrV, ↓pNotV, ↓pIf, ↓pNext, ↓pSeq, ↓pBreak, ↓pCont, ↓pDrop, ↓pRet, ↓pRetN, ↓pIfS, ↓pgNil, ↓pgCons, ↓pgTup, ↓pAsg, ↓pRaise, ↓pCall, ↓pIter, ↓pFor, ↓pLc, ↓pYes, ↓pkOf, ↓pIxK, ↓pTabG, ↓pLenK, ↓pChain, ↓pStore, ↓pAppend, ↓pPop, ↓poLst, ↓poDct, ↓pNewW, ↓pRng1, ↓pRng2, ↓pTry, ↓pTryAs, ↓oEq, ↓oNe, ↓oLen, ↓oSum, ↓oAll, ↓oAny, ↓oIsi, start0, List.map_cons, List.map_nil, List.length_cons, List.length_nil, List.cons_append, List.nil_append, List.getElem?_cons_zero, List.getElem?_cons_succ, List.set_cons_zero, List.set_cons_succ, List.replicate, D.bl.injEq, D.int.injEq, D.str.injEq, D.tup.injEq, D.lst.injEq, exists_eq_left', exists_eq_left, Option.some.injEq, Bool.false_eq_true, if_true, if_false, true_and, and_true, false_and, and_false, isi_int, isi_bool, isi_str, isi_tuple, isi_list, isiT_int, isiT_bool, isiT_str, isiT_tuple, isiT_list, Bool.not_true, Bool.not_false, dat_non, dat_bl, dat_int, dat_str, dat_tup, dat_lst, isInt_non, isInt_bl, isInt_int, isInt_str, isInt_tup, isInt_lst, isBool_non, isBool_bl, isBool_int, isBool_str, isBool_tup, isBool_lst, isStr_non, isStr_bl, isStr_int, isStr_str, isStr_tup, isStr_lst, isTup_non, isTup_bl, isTup_int, isTup_str, isTup_tup, isTup_lst, isLst_non, isLst_bl, isLst_int, isLst_str, isLst_tup, isLst_lst, Nat.reduceAdd, Nat.zero_add, sz_0, sz_1, sz_2, sz_3, sz_4, sz_5, sz_6, sz_7, sz_8, sz_9, sz_10, sz_11, sz_12, List.any_cons, List.any_nil, eqD_tup, eqD_str, eqD_int, eqDs_cons, eqDs_nil, eqDs_cn, eqDs_nc, Bool.or_false, Bool.and_true, at0, at1, at2, at3, at4, good_int, good_bl, good_nil, good_nilL, good_non, eqDs_nil_r, eqDs_nil_l, List.isEmpty_nil, List.isEmpty_cons, Bool.and_false, Bool.or_true, Bool.false_or, Bool.true_or, Bool.false_and, Bool.true_and, encB, wipS_mk, List.foldr_cons, List.foldr_nil, con_updW, ↓ixC_ownD, ↓oIx_tup, ↓oIx_lst, ↓oIx_str, ↓lenC_ownL, ↓lenC_ownD, ↓setC_ownD, putC_adr, Own_lst_inj, Con_own_inj, updW_upd, Nat.reduceSub, Nat.sub_self, ↓itD_lst, ↓itD_tup, ↓oInt_i, ↓oCmp_i, ↓oAdd_i, ↓oAdd_s, ↓oAdd_t, ↓oAdd_l, ↓oNeg_i, ↓o1I_i, ↓o2I_i, ↓oSl_t, ↓oSl_l, ↓oList_t, ↓oList_l, ↓oTuple_t, ↓oTuple_l, ↓oIn_t, ↓oIn_l, ↓oIsN_n, ↓ixC_ownLi, ↓setC_ownLi, ixN20, ixN21, ex_int1, ex_int2, ↓pSet_eq, ↓ixK_tup, ↓ixK_lst, ↓ixK_str, ↓ixK_dct, ↓lenK_tup, ↓lenK_lst, ↓lenK_str, ↓pSetO_eq, ↓pPar_eq, ↓kPar_mk, ↓pGet2, ↓pFrzO_eq, ↓kFrz_lst, ↓kFrz_dct, ↓pPairs_nil, ↓pPairs_cons, ↓poDisp, ↓getC_val, isDc_val, ↓poCat, ↓catD_l, ↓pVarV0, ↓pVarV1, ↓pVarV2, ↓pVarL0, ↓pVarL1, ↓pVarL2, ↓pVarD0, ↓pVarD1, ↓pVarD2, ↓pkVarV0, ↓pkVarV1, ↓pkVarV2, ↓pkVarO0, ↓pkVarO1, ↓pkVarO2, ↓kSetN0, ↓kSetN1, ↓kSetN2, ↓kSetO_N0, ↓kSetO_N1, ↓kSetO_N2, ↓pgNameN0, ↓pgNameN1, ↓pgNameN2, ↓ixS0, ↓ixS1, ↓ixS2, ↓lenS0, ↓lenS1, ↓lenS2, ↓setS0, ↓setS1, ↓setS2, ↓conS0, ↓conS1, ↓conS2, ↓putS0, ↓putS1, ↓putS2]
    refine ⟨p, _, encS s, rfl, hb, hw, small_S hs, fun L' hL' e2 => ?_, fun h => absurd (add_iff.mpr ⟨s, rfl, hb2⟩) (by rw [h]; decide)⟩
    have e3 : encL L' = encL (snoc { L with body := b } s) := by rw [e2, encL_snoc]
    try simp only [updW_upd, e3, ↓pC, ↓pOp, ↓pUn, ↓pSl, ↓pPart, ↓pNil, ↓pCons, ↓pTup, ↓pLst, ↓pCallB, ↓pTest, ↓pNot, ↓pAnd, ↓pOr, ↓pAndV, ↓pOrV, ↓pNotV, ↓pIf, ↓pNext, ↓pSeq, ↓pBreak, ↓pCont, ↓pDrop, ↓pRet, ↓pRetN, ↓pIfS, ↓pgNil, ↓pgCons, ↓pgTup, ↓pAsg, ↓pRaise, ↓pCall, ↓pIter, ↓pFor, ↓pLc, ↓pYes, ↓pkOf, ↓pIxK, ↓pTabG, ↓pLenK, ↓pChain, ↓pStore, ↓pAppend, ↓pPop, ↓poLst, ↓poDct, ↓pNewW, ↓pRng1, ↓pRng2, ↓pTry, ↓pTryAs, ↓oEq, ↓oNe, ↓oLen, ↓oSum, ↓oAll, ↓oAny, ↓oIsi, start0, List.map_cons, List.map_nil, List.length_cons, List.length_nil, List.cons_append, List.nil_append, List.getElem?_cons_zero, List.getElem?_cons_succ, List.set_cons_zero, List.set_cons_succ, List.replicate, D.bl.injEq, D.int.injEq, D.str.injEq, D.tup.injEq, D.lst.injEq, exists_eq_left', exists_eq_left, Option.some.injEq, Bool.false_eq_true, if_true, if_false, true_and, and_true, false_and, and_false, isi_int, isi_bool, isi_str, isi_tuple, isi_list, isiT_int, isiT_bool, isiT_str, isiT_tuple, isiT_list, Bool.not_true, Bool.not_false, dat_non, dat_bl, dat_int, dat_str, dat_tup, dat_lst, isInt_non, isInt_bl, isInt_int, isInt_str, isInt_tup, isInt_lst, isBool_non, isBool_bl, isBool_int, isBool_str, isBool_tup, isBool_lst, isStr_non, isStr_bl, isStr_int, isStr_str, isStr_tup, isStr_lst, isTup_non, isTup_bl, isTup_int, isTup_str, isTup_tup, isTup_lst, isLst_non, isLst_bl, isLst_int, isLst_str, isLst_tup, isLst_lst, Nat.reduceAdd, Nat.zero_add, sz_0, sz_1, sz_2, sz_3, sz_4, sz_5, sz_6, sz_7, sz_8, sz_9, sz_10, sz_11, sz_12, List.any_cons, List.any_nil, eqD_tup, eqD_str, eqD_int, eqDs_cons, eqDs_nil, eqDs_cn, eqDs_nc, Bool.or_false, Bool.and_true, at0, at1, at2, at3, at4, good_int, good_bl, good_nil, good_nilL, good_non, eqDs_nil_r, eqDs_nil_l, List.isEmpty_nil, List.isEmpty_cons, Bool.and_false, Bool.or_true, Bool.false_or, Bool.true_or, Bool.false_and, Bool.true_and, encB, wipS_mk, List.foldr_cons, List.foldr_nil, con_updW, ↓ixC_ownD, ↓oIx_tup, ↓oIx_lst, ↓oIx_str, ↓lenC_ownL, ↓lenC_ownD, ↓setC_ownD, putC_adr, Own_lst_inj, Con_own_inj, updW_upd, Nat.reduceSub, Nat.sub_self, ↓itD_lst, ↓itD_tup, ↓oInt_i, ↓oCmp_i, ↓oAdd_i, ↓oAdd_s, ↓oAdd_t, ↓oAdd_l, ↓oNeg_i, ↓o1I_i, ↓o2I_i, ↓oSl_t, ↓oSl_l, ↓oList_t, ↓oList_l, ↓oTuple_t, ↓oTuple_l, ↓oIn_t, ↓oIn_l, ↓oIsN_n, ↓ixC_ownLi, ↓setC_ownLi, ixN20, ixN21, ex_int1, ex_int2, ↓pSet_eq, ↓ixK_tup, ↓ixK_lst, ↓ixK_str, ↓ixK_dct, ↓lenK_tup, ↓lenK_lst, ↓lenK_str, ↓pSetO_eq, ↓pPar_eq, ↓kPar_mk, ↓pGet2, ↓pFrzO_eq, ↓kFrz_lst, ↓kFrz_dct, ↓pPairs_nil, ↓pPairs_cons, ↓poDisp, ↓getC_val, isDc_val, ↓poCat, ↓catD_l, ↓pVarV0, ↓pVarV1, ↓pVarV2, ↓pVarL0, ↓pVarL1, ↓pVarL2, ↓pVarD0, ↓pVarD1, ↓pVarD2, ↓pkVarV0, ↓pkVarV1, ↓pkVarV2, ↓pkVarO0, ↓pkVarO1, ↓pkVarO2, ↓kSetN0, ↓kSetN1, ↓kSetN2, ↓kSetO_N0, ↓kSetO_N1, ↓kSetO_N2, ↓pgNameN0, ↓pgNameN1, ↓pgNameN2, ↓ixS0, ↓ixS1, ↓ixS2, ↓lenS0, ↓lenS1, ↓lenS2, ↓setS0, ↓setS1, ↓setS2, ↓conS0, ↓conS1, ↓conS2, ↓putS0, ↓putS1, ↓putS2]
    exact hK _ ⟨b ++ [s], _, _, by rw [e, List.append_assoc]; rfl, rfl⟩
abbrev s__law_grown : Stmt := topS 83
abbrev N__law_grown : List Str := ["value", "statement"]
theorem sc__law_grown : FnScope N__law_grown ["value", "statement"] (defScope s__law_grown) := ⟨rfl, rfl, rfl, by decide +kernel, rfl, by decide +kernel, by decide +kernel⟩
theorem ok__law_grown {C_Loop C_InvalidStatement : Addr} {k : Nat}  (T : TopD K mg "_law_grown" ["value", "statement"] s__law_grown) (i_Loop : InC K C_Loop) (c_Loop_iadd : MetF P w K mg base C_Loop "__iadd__" 2 k (φ_Loop_iadd C_Loop C_InvalidStatement))  :
    CallF P w K mg base "_law_grown" 2 (k + 1) (φ__law_grown C_Loop C_InvalidStatement) := by
  refine call_of (N := N__law_grown) (k := k) T sc__law_grown fun f cdv A outer s H E hr => ⟨_, (pmss_one (pms_augOwn (i := 0) (op := .Add) i_Loop c_Loop_iadd hr sc__law_grown.nd rfl (.inl rfl) (pm_var (pv 1)))), ?_⟩
  rintro ds Wo Q E' - ⟨p, L, v, rfl, hL, hw, hv, q1, q2⟩
  try simp only [↓pAugOwn, ↓pC, ↓pOp, ↓pUn, ↓pSl, ↓pPart, ↓pNil, ↓pCons, ↓pTup, ↓pLst, ↓pCallB, ↓pTest, ↓pNot, ↓pAnd, ↓pOr, ↓pAndV, ↓pOrV, ↓pNotV, ↓pIf, ↓pNext, ↓pSeq, ↓pBreak, ↓pCont, ↓pDrop, ↓pRet, ↓pRetN, ↓pIfS, ↓pgNil, ↓pgCons, ↓pgTup, ↓pAsg, ↓pRaise, ↓pCall, ↓pIter, ↓pFor, ↓pLc, ↓pYes, ↓pkOf, ↓pIxK, ↓pTabG, ↓pLenK, ↓pChain, ↓pStore, ↓pAppend, ↓pPop, ↓poLst, ↓poDct, ↓pNewW, ↓pRng1, ↓pRng2, ↓pTry, ↓pTryAs, ↓oEq, ↓oNe, ↓oLen, ↓oSum, ↓oAll, ↓oAny, ↓oIsi, start0, List.map_cons, List.map_nil, List.length_cons, List.length_nil, List.cons_append, List.nil_append, List.getElem?_cons_zero, List.getElem?_cons_succ, List.set_cons_zero, List.set_cons_succ, List.replicate, D.bl.injEq, D.int.injEq, D.str.injEq, D.tup.injEq, D.lst.injEq, exists_eq_left', exists_eq_left, Option.some.injEq, Bool.false_eq_true, if_true, if_false, true_and, and_true, false_and, and_false, isi_int, isi_bool, isi_str, isi_tuple, isi_list, isiT_int, isiT_bool, isiT_str, isiT_tuple, isiT_list, Bool.not_true, Bool.not_false, dat_non, dat_bl, dat_int, dat_str, dat_tup, dat_lst, isInt_non, isInt_bl, isInt_int, isInt_str, isInt_tup, isInt_lst, isBool_non, isBool_bl, isBool_int, isBool_str, isBool_tup, isBool_lst, isStr_non, isStr_bl, isStr_int, isStr_str, isStr_tup, isStr_lst, isTup_non, isTup_bl, isTup_int, isTup_str, isTup_tup, isTup_lst, isLst_non, isLst_bl, isLst_int, isLst_str, isLst_tup, isLst_lst, Nat.reduceAdd, Nat.zero_add, sz_0, sz_1, sz_2, sz_3, sz_4, sz_5, sz_6, sz_7, sz_8, sz_9, sz_10, sz_11, sz_12, List.any_cons, List.any_nil, eqD_tup, eqD_str, eqD_int, eqDs_cons, eqDs_nil, eqDs_cn, eqDs_nc, Bool.or_false, Bool.and_true, at0, at1, at2, at3, at4, good_int, good_bl, good_nil, good_nilL, good_non, eqDs_nil_r, eqDs_nil_l, List.isEmpty_nil, List.isEmpty_cons, Bool.and_false, Bool.or_true, Bool.false_or, Bool.true_or, Bool.false_and, Bool.true_and, encB, wipS_mk, List.foldr_cons, List.foldr_nil, con_updW, ↓ixC_ownD, ↓oIx_tup, ↓oIx_lst, ↓oIx_str, ↓lenC_ownL, ↓lenC_ownD, ↓setC_ownD, putC_adr, Own_lst_inj, Con_own_inj, updW_upd, Nat.reduceSub, Nat.sub_self, ↓itD_lst, ↓itD_tup, ↓oInt_i, ↓oCmp_i, ↓oAdd_i, ↓oAdd_s, ↓oAdd_t, ↓oAdd_l, ↓oNeg_i, ↓o1I_i, ↓o2I_i, ↓oSl_t, ↓oSl_l, ↓oList_t, ↓oList_l, ↓oTuple_t, ↓oTuple_l, ↓oIn_t, ↓oIn_l, ↓oIsN_n, ↓ixC_ownLi, ↓setC_ownLi, ixN20, ixN21, ex_int1, ex_int2, ↓pSet_eq, ↓ixK_tup, ↓ixK_lst, ↓ixK_str, ↓ixK_dct, ↓lenK_tup, ↓lenK_lst, ↓lenK_str, ↓pSetO_eq, ↓pPar_eq, ↓kPar_mk, ↓pGet2, ↓pFrzO_eq, ↓kFrz_lst, ↓kFrz_dct, ↓pPairs_nil, ↓pPairs_cons, ↓poDisp, ↓getC_val, isDc_val, ↓poCat, ↓catD_l, ↓pVarV0, ↓pVarV1, ↓pVarL0, ↓pVarL1, ↓pVarD0, ↓pVarD1, ↓pkVarV0, ↓pkVarV1, ↓pkVarO0, ↓pkVarO1, ↓kSetN0, ↓kSetN1, ↓kSetO_N0, ↓kSetO_N1, ↓pgNameN0, ↓pgNameN1, ↓ixS0, ↓ixS1, ↓lenS0, ↓lenS1, ↓setS0, ↓setS1, ↓conS0, ↓conS1, ↓putS0, ↓putS1]
  refine ⟨p, rfl, ?_⟩
  try simp only [↓insW_val hw, ↓pC, ↓pOp, ↓pUn, ↓pSl, ↓pPart, ↓pNil, ↓pCons, ↓pTup, ↓pLst, ↓pCallB, ↓pTest, ↓pNot, ↓pAnd, ↓pOr, ↓pAndV, ↓pOrV, ↓pNotV, ↓pIf, ↓pNext, ↓pSeq, ↓pBreak, ↓pCont, ↓pDrop, ↓pRet, ↓pRetN, ↓pIfS, ↓pgNil, ↓pgCons, ↓pgTup, ↓pAsg, ↓pRaise, ↓pCall, ↓pIter, ↓pFor, ↓pLc, ↓pYes, ↓pkOf, ↓pIxK, ↓pTabG, ↓pLenK, ↓pChain, ↓pStore, ↓pAppend, ↓pPop, ↓poLst, ↓poDct, ↓pNewW, ↓pRng1, ↓pRng2, ↓pTry, ↓pTryAs, ↓oEq, ↓oNe, ↓oLen, ↓oSum, ↓oAll, ↓oAny, ↓oIsi, start0, List.map_cons, List.map_nil, List.length_cons, List.length_nil, List.cons_append, List.nil_append, List.getElem?_cons_zero, List.getElem?_cons_succ, List.set_cons_zero, List.set_cons_succ, List.replicate, D.bl.injEq, D.int.injEq, D.str.injEq, D.tup.injEq, D.lst.injEq, exists_eq_left', exists_eq_left, Option.some.injEq, Bool.false_eq_true, if_true, if_false, true_and, and_true, false_and, and_false, isi_int, isi_bool, isi_str, isi_tuple, isi_list, isiT_int, isiT_bool, isiT_str, isiT_tuple, isiT_list, Bool.not_true, Bool.not_false, dat_non, dat_bl, dat_int, dat_str, dat_tup, dat_lst, isInt_non, isInt_bl, isInt_int, isInt_str, isInt_tup, isInt_lst, isBool_non, isBool_bl, isBool_int, isBool_str, isBool_tup, isBool_lst, isStr_non, isStr_bl, isStr_int, isStr_str, isStr_tup, isStr_lst, isTup_non, isTup_bl, isTup_int, isTup_str, isTup_tup, isTup_lst, isLst_non, isLst_bl, isLst_int, isLst_str, isLst_tup, isLst_lst, Nat.reduceAdd, Nat.zero_add, sz_0, sz_1, sz_2, sz_3, sz_4, sz_5, sz_6, sz_7, sz_8, sz_9, sz_10, sz_11, sz_12, List.any_cons, List.any_nil, eqD_tup, eqD_str, eqD_int, eqDs_cons, eqDs_nil, eqDs_cn, eqDs_nc, Bool.or_false, Bool.and_true, at0, at1, at2, at3, at4, good_int, good_bl, good_nil, good_nilL, good_non, eqDs_nil_r, eqDs_nil_l, List.isEmpty_nil, List.isEmpty_cons, Bool.and_false, Bool.or_true, Bool.false_or, Bool.true_or, Bool.false_and, Bool.true_and, encB, wipS_mk, List.foldr_cons, List.foldr_nil, con_updW, ↓ixC_ownD, ↓oIx_tup, ↓oIx_lst, ↓oIx_str, ↓lenC_ownL, ↓lenC_ownD, ↓setC_ownD, putC_adr, Own_lst_inj, Con_own_inj, updW_upd, Nat.reduceSub, Nat.sub_self, ↓itD_lst, ↓itD_tup, ↓oInt_i, ↓oCmp_i, ↓oAdd_i, ↓oAdd_s, ↓oAdd_t, ↓oAdd_l, ↓oNeg_i, ↓o1I_i, ↓o2I_i, ↓oSl_t, ↓oSl_l, ↓oList_t, ↓oList_l, ↓oTuple_t, ↓oTuple_l, ↓oIn_t, ↓oIn_l, ↓oIsN_n, ↓ixC_ownLi, ↓setC_ownLi, ixN20, ixN21, ex_int1, ex_int2, ↓pSet_eq, ↓ixK_tup, ↓ixK_lst, ↓ixK_str, ↓ixK_dct, ↓lenK_tup, ↓lenK_lst, ↓lenK_str, ↓pSetO_eq, ↓pPar_eq, ↓kPar_mk, ↓pGet2, ↓pFrzO_eq, ↓kFrz_lst, ↓kFrz_dct, ↓pPairs_nil, ↓pPairs_cons, ↓poDisp, ↓getC_val, isDc_val, ↓poCat, ↓catD_l, ↓pVarV0, ↓pVarV1, ↓pVarL0, ↓pVarL1, ↓pVarD0, ↓pVarD1, ↓pkVarV0, ↓pkVarV1, ↓pkVarO0, ↓pkVarO1, ↓kSetN0, ↓kSetN1, ↓kSetO_N0, ↓kSetO_N1, ↓pgNameN0, ↓pgNameN1, ↓ixS0, ↓ixS1, ↓lenS0, ↓lenS1, ↓setS0, ↓setS1, ↓conS0, ↓conS1, ↓putS0, ↓putS1]
  exact ⟨p, L, v, rfl, hL, hw, hv, q1, q2⟩
abbrev s__law_fewer : Stmt := topS 84
abbrev N__law_fewer : List Str := ["value", "number"]
theorem sc__law_fewer : FnScope N__law_fewer ["value", "number"] (defScope s__law_fewer) := ⟨rfl, rfl, rfl, by decide +kernel, rfl, by decide +kernel, by decide +kernel⟩
theorem ok__law_fewer {C_Loop C_InvalidNumber : Addr} {k : Nat}  (T : TopD K mg "_law_fewer" ["value", "number"] s__law_fewer) (i_Loop : InC K C_Loop) (c_Loop_isub : MetF P w K mg base C_Loop "__isub__" 2 k (φ_Loop_isub C_Loop C_InvalidNumber))  :
    CallF P w K mg base "_law_fewer" 2 (k + 1) (φ__law_fewer C_Loop C_InvalidNumber) := by
  refine call_of (N := N__law_fewer) (k := k) T sc__law_fewer fun f cdv A outer s H E hr => ⟨_, (pmss_one (pms_augOwn (i := 0) (op := .Sub) i_Loop c_Loop_isub hr sc__law_fewer.nd rfl (.inl rfl) (pm_var (pv 1)))), ?_⟩
  rintro ds Wo Q E' - ⟨p, L, v, rfl, hL, hw, hv, q1, q2⟩
  try simp only [↓pAugOwn, ↓pC, ↓pOp, ↓pUn, ↓pSl, ↓pPart, ↓pNil, ↓pCons, ↓pTup, ↓pLst, ↓pCallB, ↓pTest, ↓pNot, ↓pAnd, ↓pOr, ↓pAndV, ↓pOrV, ↓pNotV, ↓pIf, ↓pNext, ↓pSeq, ↓pBreak, ↓pCont, ↓pDrop, ↓pRet, ↓pRetN, ↓pIfS, ↓pgNil, ↓pgCons, ↓pgTup, ↓pAsg, ↓pRaise, ↓pCall, ↓pIter, ↓pFor, ↓pLc, ↓pYes, ↓pkOf, ↓pIxK, ↓pTabG, ↓pLenK, ↓pChain, ↓pStore, ↓pAppend, ↓pPop, ↓poLst, ↓poDct, ↓pNewW, ↓pRng1, ↓pRng2, ↓pTry, ↓pTryAs, ↓oEq, ↓oNe, ↓oLen, ↓oSum, ↓oAll, ↓oAny, ↓oIsi, start0, List.map_cons, List.map_nil, List.length_cons, List.length_nil, List.cons_append, List.nil_append, List.getElem?_cons_zero, List.getElem?_cons_succ, List.set_cons_zero, List.set_cons_succ, List.replicate, D.bl.injEq, D.int.injEq, D.str.injEq, D.tup.injEq, D.lst.injEq, exists_eq_left', exists_eq_left, Option.some.injEq, Bool.false_eq_true, if_true, if_false, true_and, and_true, false_and, and_false, isi_int, isi_bool, isi_str, isi_tuple, isi_list, isiT_int, isiT_bool, isiT_str, isiT_tuple, isiT_list, Bool.not_true, Bool.not_false, dat_non, dat_bl, dat_int, dat_str, dat_tup, dat_lst, isInt_non, isInt_bl, isInt_int, isInt_str, isInt_tup, isInt_lst, isBool_non, isBool_bl, isBool_int, isBool_str, isBool_tup, isBool_lst, isStr_non, isStr_bl, isStr_int, isStr_str, isStr_tup, isStr_lst, isTup_non, isTup_bl, isTup_int, isTup_str, isTup_tup, isTup_lst, isLst_non, isLst_bl, isLst_int, isLst_str, isLst_tup, isLst_lst, Nat.reduceAdd, Nat.zero_add, sz_0, sz_1, sz_2, sz_3, sz_4, sz_5, sz_6, sz_7, sz_8, sz_9, sz_10, sz_11, sz_12, List.any_cons, List.any_nil, eqD_tup, eqD_str, eqD_int, eqDs_cons, eqDs_nil, eqDs_cn, eqDs_nc, Bool.or_false, Bool.and_true, at0, at1, at2, at3, at4, good_int, good_bl, good_nil, good_nilL, good_non, eqDs_nil_r, eqDs_nil_l, List.isEmpty_nil, List.isEmpty_cons, Bool.and_false, Bool.or_true, Bool.false_or, Bool.true_or, Bool.false_and, Bool.true_and, encB, wipS_mk, List.foldr_cons, List.foldr_nil, con_updW, ↓ixC_ownD, ↓oIx_tup, ↓oIx_lst, ↓oIx_str, ↓lenC_ownL, ↓lenC_ownD, ↓setC_ownD, putC_adr, Own_lst_inj, Con_own_inj, updW_upd, Nat.reduceSub, Nat.sub_self, ↓itD_lst, ↓itD_tup, ↓oInt_i, ↓oCmp_i, ↓oAdd_i, ↓oAdd_s, ↓oAdd_t, ↓oAdd_l, ↓oNeg_i, ↓o1I_i, ↓o2I_i, ↓oSl_t, ↓oSl_l, ↓oList_t, ↓oList_l, ↓oTuple_t, ↓oTuple_l, ↓oIn_t, ↓oIn_l, ↓oIsN_n, ↓ixC_ownLi, ↓setC_ownLi, ixN20, ixN21, ex_int1, ex_int2, ↓pSet_eq, ↓ixK_tup, ↓ixK_lst, ↓ixK_str, ↓ixK_dct, ↓lenK_tup, ↓lenK_lst, ↓lenK_str, ↓pSetO_eq, ↓pPar_eq, ↓kPar_mk, ↓pGet2, ↓pFrzO_eq, ↓kFrz_lst, ↓kFrz_dct, ↓pPairs_nil, ↓pPairs_cons, ↓poDisp, ↓getC_val, isDc_val, ↓poCat, ↓catD_l, ↓pVarV0, ↓pVarV1, ↓pVarL0, ↓pVarL1, ↓pVarD0, ↓pVarD1, ↓pkVarV0, ↓pkVarV1, ↓pkVarO0, ↓pkVarO1, ↓kSetN0, ↓kSetN1, ↓kSetO_N0, ↓kSetO_N1, ↓pgNameN0, ↓pgNameN1, ↓ixS0, ↓ixS1, ↓lenS0, ↓lenS1, ↓setS0, ↓setS1, ↓conS0, ↓conS1, ↓putS0, ↓putS1]
  refine ⟨p, rfl, ?_⟩
  try simp only [↓insW_val hw, ↓pC, ↓pOp, ↓pUn, ↓pSl, ↓pPart, ↓pNil, ↓pCons, ↓pTup, ↓pLst, ↓pCallB, ↓pTest, ↓pNot, ↓pAnd, ↓pOr, ↓pAndV, ↓pOrV, ↓pNotV, ↓pIf, ↓pNext, ↓pSeq, ↓pBreak, ↓pCont, ↓pDrop, ↓pRet, ↓pRetN, ↓pIfS, ↓pgNil, ↓pgCons, ↓pgTup, ↓pAsg, ↓pRaise, ↓pCall, ↓pIter, ↓pFor, ↓pLc, ↓pYes, ↓pkOf, ↓pIxK, ↓pTabG, ↓pLenK, ↓pChain, ↓pStore, ↓pAppend, ↓pPop, ↓poLst, ↓poDct, ↓pNewW, ↓pRng1, ↓pRng2, ↓pTry, ↓pTryAs, ↓oEq, ↓oNe, ↓oLen, ↓oSum, ↓oAll, ↓oAny, ↓oIsi, start0, List.map_cons, List.map_nil, List.length_cons, List.length_nil, List.cons_append, List.nil_append, List.getElem?_cons_zero, List.getElem?_cons_succ, List.set_cons_zero, List.set_cons_succ, List.replicate, D.bl.injEq, D.int.injEq, D.str.injEq, D.tup.injEq, D.lst.injEq, exists_eq_left', exists_eq_left, Option.some.injEq, Bool.false_eq_true, if_true, if_false, true_and, and_true, false_and, and_false, isi_int, isi_bool, isi_str, isi_tuple, isi_list, isiT_int, isiT_bool, isiT_str, isiT_tuple, isiT_list, Bool.not_true, Bool.not_false, dat_non, dat_bl, dat_int, dat_str, dat_tup, dat_lst, isInt_non, isInt_bl, isInt_int, isInt_str, isInt_tup, isInt_lst, isBool_non, isBool_bl, isBool_int, isBool_str, isBool_tup, isBool_lst, isStr_non, isStr_bl, isStr_int, isStr_str, isStr_tup, isStr_lst, isTup_non, isTup_bl, isTup_int, isTup_str, isTup_tup, isTup_lst, isLst_non, isLst_bl, isLst_int, isLst_str, isLst_tup, isLst_lst, Nat.reduceAdd, Nat.zero_add, sz_0, sz_1, sz_2, sz_3, sz_4, sz_5, sz_6, sz_7, sz_8, sz_9, sz_10, sz_11, sz_12, List.any_cons, List.any_nil, eqD_tup, eqD_str, eqD_int, eqDs_cons, eqDs_nil, eqDs_cn, eqDs_nc, Bool.or_false, Bool.and_true, at0, at1, at2, at3, at4, good_int, good_bl, good_nil, good_nilL, good_non, eqDs_nil_r, eqDs_nil_l, List.isEmpty_nil, List.isEmpty_cons, Bool.and_false, Bool.or_true, Bool.false_or, Bool.true_or, Bool.false_and, Bool.true_and, encB, wipS_mk, List.foldr_cons, List.foldr_nil, con_updW, ↓ixC_ownD, ↓oIx_tup, ↓oIx_lst, ↓oIx_str, ↓lenC_ownL, ↓lenC_ownD, ↓setC_ownD, putC_adr, Own_lst_inj, Con_own_inj, updW_upd, Nat.reduceSub, Nat.sub_self, ↓itD_lst, ↓itD_tup, ↓oInt_i, ↓oCmp_i, ↓oAdd_i, ↓oAdd_s, ↓oAdd_t, ↓oAdd_l, ↓oNeg_i, ↓o1I_i, ↓o2I_i, ↓oSl_t, ↓oSl_l, ↓oList_t, ↓oList_l, ↓oTuple_t, ↓oTuple_l, ↓oIn_t, ↓oIn_l, ↓oIsN_n, ↓ixC_ownLi, ↓setC_ownLi, ixN20, ixN21, ex_int1, ex_int2, ↓pSet_eq, ↓ixK_tup, ↓ixK_lst, ↓ixK_str, ↓ixK_dct, ↓lenK_tup, ↓lenK_lst, ↓lenK_str, ↓pSetO_eq, ↓pPar_eq, ↓kPar_mk, ↓pGet2, ↓pFrzO_eq, ↓kFrz_lst, ↓kFrz_dct, ↓pPairs_nil, ↓pPairs_cons, ↓poDisp, ↓getC_val, isDc_val, ↓poCat, ↓catD_l, ↓pVarV0, ↓pVarV1, ↓pVarL0, ↓pVarL1, ↓pVarD0, ↓pVarD1, ↓pkVarV0, ↓pkVarV1, ↓pkVarO0, ↓pkVarO1, ↓kSetN0, ↓kSetN1, ↓kSetO_N0, ↓kSetO_N1, ↓pgNameN0, ↓pgNameN1, ↓ixS0, ↓ixS1, ↓lenS0, ↓lenS1, ↓setS0, ↓setS1, ↓conS0, ↓conS1, ↓putS0, ↓putS1]
  exact ⟨p, L, v, rfl, hL, hw, hv, q1, q2⟩
abbrev s__law_timed : Stmt := topS 85
abbrev N__law_timed : List Str := ["value", "most"]
theorem sc__law_timed : FnScope N__law_timed ["value", "most"] (defScope s__law_timed) := ⟨rfl, rfl, rfl, by decide +kernel, rfl, by decide +kernel, by decide +kernel⟩
theorem ok__law_timed {C_Loop C_InvalidLoop : Addr} {k : Nat}  (T : TopD K mg "_law_timed" ["value", "most"] s__law_timed) (i_Loop : InC K C_Loop) (c_Loop_imul : MetF P w K mg base C_Loop "__imul__" 2 k (φ_Loop_imul C_Loop C_InvalidLoop))  :
    CallF P w K mg base "_law_timed" 2 (k + 1) (φ__law_timed C_Loop C_InvalidLoop) := by
  refine call_of (N := N__law_timed) (k := k) T sc__law_timed fun f cdv A outer s H E hr => ⟨_, (pmss_one (pms_augOwn (i := 0) (op := .Mult) i_Loop c_Loop_imul hr sc__law_timed.nd rfl (.inl rfl) (pm_var (pv 1)))), ?_⟩
  rintro ds Wo Q E' - ⟨p, L, v, rfl, hL, hw, hv, q1, q2⟩
  try simp only [↓pAugOwn, ↓pC, ↓pOp, ↓pUn, ↓pSl, ↓pPart, ↓pNil, ↓pCons, ↓pTup, ↓pLst, ↓pCallB, ↓pTest, ↓pNot, ↓pAnd, ↓pOr, ↓pAndV, ↓pOrV, ↓pNotV, ↓pIf, ↓pNext, ↓pSeq, ↓pBreak, ↓pCont, ↓pDrop, ↓pRet, ↓pRetN, ↓pIfS, ↓pgNil, ↓pgCons, ↓pgTup, ↓pAsg, ↓pRaise, ↓pCall, ↓pIter, ↓pFor, ↓pLc, ↓pYes, ↓pkOf, ↓pIxK, ↓pTabG, ↓pLenK, ↓pChain, ↓pStore, ↓pAppend, ↓pPop, ↓poLst, ↓poDct, ↓pNewW, ↓pRng1, ↓pRng2, ↓pTry, ↓pTryAs, ↓oEq, ↓oNe, ↓oLen, ↓oSum, ↓oAll, ↓oAny, ↓oIsi, start0, List.map_cons, List.map_nil, List.length_cons, List.length_nil, List.cons_append, List.nil_append, List.getElem?_cons_zero, List.getElem?_cons_succ, List.set_cons_zero, List.set_cons_succ, List.replicate, D.bl.injEq, D.int.injEq, D.str.injEq, D.tup.injEq, D.lst.injEq, exists_eq_left', exists_eq_left, Option.some.injEq, Bool.false_eq_true, if_true, if_false, true_and, and_true, false_and, and_false, isi_int, isi_bool, isi_str, isi_tuple, isi_list, isiT_int, isiT_bool, isiT_str, isiT_tuple, isiT_list, Bool.not_true, Bool.not_false, dat_non, dat_bl, dat_int, dat_str, dat_tup, dat_lst, isInt_non, isInt_bl, isInt_int, isInt_str, isInt_tup, isInt_lst, isBool_non, isBool_bl, isBool_int, isBool_str, isBool_tup, isBool_lst, isStr_non, isStr_bl, isStr_int, isStr_str, isStr_tup, isStr_lst, isTup_non, isTup_bl, isTup_int, isTup_str, isTup_tup, isTup_lst, isLst_non, isLst_bl, isLst_int, isLst_str, isLst_tup, isLst_lst, Nat.reduceAdd, Nat.zero_add, sz_0, sz_1, sz_2, sz_3, sz_4, sz_5, sz_6, sz_7, sz_8, sz_9, sz_10, sz_11, sz_12, List.any_cons, List.any_nil, eqD_tup, eqD_str, eqD_int, eqDs_cons, eqDs_nil, eqDs_cn, eqDs_nc, Bool.or_false, Bool.and_true, at0, at1, at2, at3, at4, good_int, good_bl, good_nil, good_nilL, good_non, eqDs_nil_r, eqDs_nil_l, List.isEmpty_nil, List.isEmpty_cons, Bool.and_false, Bool.or_true, Bool.false_or, Bool.true_or, Bool.false_and, Bool.true_and, encB, wipS_mk, List.foldr_cons, List.foldr_nil, con_updW, ↓ixC_ownD, ↓oIx_tup, ↓oIx_lst, ↓oIx_str, ↓lenC_ownL, ↓lenC_ownD, ↓setC_ownD, putC_adr, Own_lst_inj, Con_own_inj, updW_upd, Nat.reduceSub, Nat.sub_self, ↓itD_lst, ↓itD_tup, ↓oInt_i, ↓oCmp_i, ↓oAdd_i, ↓oAdd_s, ↓oAdd_t, ↓oAdd_l, ↓oNeg_i, ↓o1I_i, ↓o2I_i, ↓oSl_t, ↓oSl_l, ↓oList_t, ↓oList_l, ↓oTuple_t, ↓oTuple_l, ↓oIn_t, ↓oIn_l, ↓oIsN_n, ↓ixC_ownLi, ↓setC_ownLi, ixN20, ixN21, ex_int1, ex_int2, ↓pSet_eq, ↓ixK_tup, ↓ixK_lst, ↓ixK_str, ↓ixK_dct, ↓lenK_tup, ↓lenK_lst, ↓lenK_str, ↓pSetO_eq, ↓pPar_eq, ↓kPar_mk, ↓pGet2, ↓pFrzO_eq, ↓kFrz_lst, ↓kFrz_dct, ↓pPairs_nil, ↓pPairs_cons, ↓poDisp, ↓getC_val, isDc_val, ↓poCat, ↓catD_l, ↓pVarV0, ↓pVarV1, ↓pVarL0, ↓pVarL1, ↓pVarD0, ↓pVarD1, ↓pkVarV0, ↓pkVarV1, ↓pkVarO0, ↓pkVarO1, ↓kSetN0, ↓kSetN1, ↓kSetO_N0, ↓kSetO_N1, ↓pgNameN0, ↓pgNameN1, ↓ixS0, ↓ixS1, ↓lenS0, ↓lenS1, ↓setS0, ↓setS1, ↓conS0, ↓conS1, ↓putS0, ↓putS1]
  refine ⟨p, rfl, ?_⟩
  try simp only [↓insW_val hw, ↓pC, ↓pOp, ↓pUn, ↓pSl, ↓pPart, ↓pNil, ↓pCons, ↓pTup, ↓pLst, ↓pCallB, ↓pTest, ↓pNot, ↓pAnd, ↓pOr, ↓pAndV, ↓pOrV, ↓pNotV, ↓pIf, ↓pNext, ↓pSeq, ↓pBreak, ↓pCont, ↓pDrop, ↓pRet, ↓pRetN, ↓pIfS, ↓pgNil, ↓pgCons, ↓pgTup, ↓pAsg, ↓pRaise, ↓pCall, ↓pIter, ↓pFor, ↓pLc, ↓pYes, ↓pkOf, ↓pIxK, ↓pTabG, ↓pLenK, ↓pChain, ↓pStore, ↓pAppend, ↓pPop, ↓poLst, ↓poDct, ↓pNewW, ↓pRng1, ↓pRng2, ↓pTry, ↓pTryAs, ↓oEq, ↓oNe, ↓oLen, ↓oSum, ↓oAll, ↓oAny, ↓oIsi, start0, List.map_cons, List.map_nil, List.length_cons, List.length_nil, List.cons_append, List.nil_append, List.getElem?_cons_zero, List.getElem?_cons_succ, List.set_cons_zero, List.set_cons_succ, List.replicate, D.bl.injEq, D.int.injEq, D.str.injEq, D.tup.injEq, D.lst.injEq, exists_eq_left', exists_eq_left, Option.some.injEq, Bool.false_eq_true, if_true, if_false, true_and, and_true, false_and, and_false, isi_int, isi_bool, isi_str, isi_tuple, isi_list, isiT_int, isiT_bool, isiT_str, isiT_tuple, isiT_list, Bool.not_true, Bool.not_false, dat_non, dat_bl, dat_int, dat_str, dat_tup, dat_lst, isInt_non, isInt_bl, isInt_int, isInt_str, isInt_tup, isInt_lst, isBool_non, isBool_bl, isBool_int, isBool_str, isBool_tup, isBool_lst, isStr_non, isStr_bl, isStr_int, isStr_str, isStr_tup, isStr_lst, isTup_non, isTup_bl, isTup_int, isTup_str, isTup_tup, isTup_lst, isLst_non, isLst_bl, isLst_int, isLst_str, isLst_tup, isLst_lst, Nat.reduceAdd, Nat.zero_add, sz_0, sz_1, sz_2, sz_3, sz_4, sz_5, sz_6, sz_7, sz_8, sz_9, sz_10, sz_11, sz_12, List.any_cons, List.any_nil, eqD_tup, eqD_str, eqD_int, eqDs_cons, eqDs_nil, eqDs_cn, eqDs_nc, Bool.or_false, Bool.and_true, at0, at1, at2, at3, at4, good_int, good_bl, good_nil, good_nilL, good_non, eqDs_nil_r, eqDs_nil_l, List.isEmpty_nil, List.isEmpty_cons, Bool.and_false, Bool.or_true, Bool.false_or, Bool.true_or, Bool.false_and, Bool.true_and, encB, wipS_mk, List.foldr_cons, List.foldr_nil, con_updW, ↓ixC_ownD, ↓oIx_tup, ↓oIx_lst, ↓oIx_str, ↓lenC_ownL, ↓lenC_ownD, ↓setC_ownD, putC_adr, Own_lst_inj, Con_own_inj, updW_upd, Nat.reduceSub, Nat.sub_self, ↓itD_lst, ↓itD_tup, ↓oInt_i, ↓oCmp_i, ↓oAdd_i, ↓oAdd_s, ↓oAdd_t, ↓oAdd_l, ↓oNeg_i, ↓o1I_i, ↓o2I_i, ↓oSl_t, ↓oSl_l, ↓oList_t, ↓oList_l, ↓oTuple_t, ↓oTuple_l, ↓oIn_t, ↓oIn_l, ↓oIsN_n, ↓ixC_ownLi, ↓setC_ownLi, ixN20, ixN21, ex_int1, ex_int2, ↓pSet_eq, ↓ixK_tup, ↓ixK_lst, ↓ixK_str, ↓ixK_dct, ↓lenK_tup, ↓lenK_lst, ↓lenK_str, ↓pSetO_eq, ↓pPar_eq, ↓kPar_mk, ↓pGet2, ↓pFrzO_eq, ↓kFrz_lst, ↓kFrz_dct, ↓pPairs_nil, ↓pPairs_cons, ↓poDisp, ↓getC_val, isDc_val, ↓poCat, ↓catD_l, ↓pVarV0, ↓pVarV1, ↓pVarL0, ↓pVarL1, ↓pVarD0, ↓pVarD1, ↓pkVarV0, ↓pkVarV1, ↓pkVarO0, ↓pkVarO1, ↓kSetN0, ↓kSetN1, ↓kSetO_N0, ↓kSetO_N1, ↓pgNameN0, ↓pgNameN1, ↓ixS0, ↓ixS1, ↓lenS0, ↓lenS1, ↓setS0, ↓setS1, ↓conS0, ↓conS1, ↓putS0, ↓putS1]
  exact ⟨p, L, v, rfl, hL, hw, hv, q1, q2⟩
abbrev s__law_word : Stmt := topS 86
abbrev N__law_word : List Str := ["call", "word"]
theorem sc__law_word : FnScope N__law_word ["call"] (defScope s__law_word) := ⟨rfl, rfl, rfl, by decide +kernel, rfl, by decide +kernel, by decide +kernel⟩
theorem wd__law_word {C_InvalidStatement : Addr} {C_InvalidNumber : Addr} {C_InvalidLoop : Addr} {C_PaceError : Addr} (T : TopD K mg "_law_word" ["call"] s__law_word) (x_InvalidStatement : ExC K mg "InvalidStatement" C_InvalidStatement) (x_InvalidNumber : ExC K mg "InvalidNumber" C_InvalidNumber) (x_InvalidLoop : ExC K mg "InvalidLoop" C_InvalidLoop) (x_PaceError : ExC K mg "PaceError" C_PaceError) : WordD K mg "_law_word" [(C_InvalidStatement, "statement"), (C_InvalidNumber, "number"), (C_InvalidLoop, "loop"), (C_PaceError, "else")] := by
  obtain ⟨g, fd, F, hm, hb⟩ := T.ex
  obtain ⟨oc, od, kV, doc, pm, an, cdv, ct, osl, rfl, lk, hcd⟩ := F.ex
  refine ⟨g, _, _, _, _, kV, doc, pm, cdv, ct, oc, an, od, osl, hm, F.kp, lk, hcd, hb, sc__law_word, .inl rfl, fun X q hK hmg => ?_⟩
  subst hK hmg
  exact word_gives rfl fun s H => .cons ⟨rfl, rfl, .inl x_InvalidStatement.gP⟩ (fun a oe cls d pn hz hf => pss_one (ps_set (i := 1) (show (["call", "word"] : List Str).Nodup from by decide +kernel) rfl (.inl rfl) pe_str (hf := .inr rfl))) (.cons ⟨rfl, rfl, .inl x_InvalidNumber.gP⟩ (fun a oe cls d pn hz hf => pss_one (ps_set (i := 1) (show (["call", "word"] : List Str).Nodup from by decide +kernel) rfl (.inl rfl) pe_str (hf := .inr rfl))) (.cons ⟨rfl, rfl, .inl x_InvalidLoop.gP⟩ (fun a oe cls d pn hz hf => pss_one (ps_set (i := 1) (show (["call", "word"] : List Str).Nodup from by decide +kernel) rfl (.inl rfl) pe_str (hf := .inr rfl))) (.cons ⟨rfl, rfl, .inl x_PaceError.gP⟩ (fun a oe cls d pn hz hf => pss_one (ps_set (i := 1) (show (["call", "word"] : List Str).Nodup from by decide +kernel) rfl (.inl rfl) pe_str (hf := .inr rfl))) (.nil))))
abbrev s__law_change : Stmt := topS 87
abbrev N__law_change : List Str := ["source", "value", "now", "way", "many", "odd", "part", "good", "word", "number", "most"]
theorem sc__law_change : FnScope N__law_change ["source", "value", "now"] (defScope s__law_change) := ⟨rfl, rfl, rfl, by decide +kernel, rfl, by decide +kernel, by decide +kernel⟩
theorem ok__law_change {C_Loop C_InvalidStatement C_InvalidNumber C_InvalidLoop C_PaceError p_code : Addr} {k : Nat}  {c_code : Addr} (T : TopC K mg "_law_change" ["source", "value", "now"] s__law_change c_code) (m_isinstance : mg "isinstance" = none) (m_bool : mg "bool" = none) (m_int : mg "int" = none) (x_InvalidStatement : ExC K mg "InvalidStatement" C_InvalidStatement) (x_InvalidNumber : ExC K mg "InvalidNumber" C_InvalidNumber) (x_InvalidLoop : ExC K mg "InvalidLoop" C_InvalidLoop) (x_PaceError : ExC K mg "PaceError" C_PaceError) (w__law_word : WordD K mg "_law_word" [(C_InvalidStatement, "statement"), (C_InvalidNumber, "number"), (C_InvalidLoop, "loop"), (C_PaceError, "else")]) (t_code : LamX.TabB base mg c_code p_code) (c__law_timed : CallF P w K mg base "_law_timed" 2 k (φ__law_timed C_Loop C_InvalidLoop)) (c__law_draw : CallF P w K mg base "_law_draw" 2 k (φ__law_draw)) (c__law_of : CallF P w K mg base "_law_of" 2 k (φ__law_of)) (c__law_less : CallF P w K mg base "_law_less" 2 k (φ__law_less)) (c__law_fewer : CallF P w K mg base "_law_fewer" 2 k (φ__law_fewer C_Loop C_InvalidNumber)) (c__law_grown : CallF P w K mg base "_law_grown" 2 k (φ__law_grown C_Loop C_InvalidStatement)) (m_len : mg "len" = none) (c__law_simple : CallF P w K mg base "_law_simple" 1 k (φ__law_simple)) (c__law_size : CallF P w K mg base "_law_size" 1 k (φ__law_size 3)) (e1 : PySem.W.exmOne K (.ref C_InvalidStatement) (.ref C_InvalidStatement) = some true) (e2 : PySem.W.exmOne K (.ref C_InvalidNumber) (.ref C_InvalidStatement) = some false) (e3 : PySem.W.exmOne K (.ref C_InvalidNumber) (.ref C_InvalidNumber) = some true) (e4 : PySem.W.exmOne K (.ref C_InvalidLoop) (.ref C_InvalidStatement) = some false) (e5 : PySem.W.exmOne K (.ref C_InvalidLoop) (.ref C_InvalidNumber) = some false) (e6 : PySem.W.exmOne K (.ref C_InvalidLoop) (.ref C_InvalidLoop) = some true) :
    CallF P w K mg base "_law_change" 3 (k + 2 + 1) (φ__law_change C_Loop p_code) := by
  refine call_ofC (N := N__law_change) (k := k + 2) T sc__law_change fun f A outer s H E hr => ⟨_, (pmss_cons (pms_par (i := 3) (j := 4) (fun W t => ps_par (i := 3) (j := 4) rfl sc__law_change.nd rfl rfl (by decide) rfl rfl ((pma_cons (pm_callF c__law_draw (hr.mono (by omega)) (by rfl) (pma_cons (pm_var (pv 0)) (pma_cons pm_int pma_nil))) (pma_cons (pm_callF c__law_size (hr.mono (by omega)) (by rfl) (pma_cons (pm_ixK (Room.hu1 hr) (pk_var (pv 2)) pm_int (fun _ _ => rfl)) pma_nil)) pma_nil)) W t) (by rfl)))
      (pmss_cons (pms_if (pmt_cmp od_lt (pm_var (pv 3)) pm_int (nomark _)) (pmss_cons (pms_set (i := 5) (fun W t => ps_set (i := 5) sc__law_change.nd rfl (.inl rfl) ((pm_callF c__law_of (hr.mono (by omega)) (by rfl) (pma_cons (pm_var (pv 0)) (pma_cons (pm_lst (pma_cons pm_non (pma_cons (pm_tup (pma_cons pm_str (pma_cons pm_int pma_nil))) (pma_cons pm_str (pma_cons (pm_lst (pma_cons pm_str pma_nil)) (pma_cons (pm_tup (pma_cons pm_str (pma_cons pm_int pma_nil))) (pma_cons (pm_tup (pma_cons pm_str (pma_cons (pm_tup (pma_cons pm_str pma_nil)) (pma_cons (pm_tup pma_nil) pma_nil)))) (pma_cons (pm_tup pma_nil) pma_nil)))))))) pma_nil))) W t)))
      (pmss_cons (pms_set (i := 6) (fun W t => ps_set (i := 6) sc__law_change.nd rfl (.inr rfl) ((pm_ifExp (pmt_cmp (od_eq (Room.hu64 hr)) (pm_callF c__law_draw (hr.mono (by omega)) (by rfl) (pma_cons (pm_var (pv 0)) (pma_cons pm_int pma_nil))) pm_int (nomark _)) (pm_var (pv 5)) (pm_callF c__law_simple (hr.mono (by omega)) (by rfl) (pma_cons (pm_var (pv 0)) pma_nil))) W t)))
      (pmss_cons (pms_set (i := 7) (fun W t => ps_set (i := 7) sc__law_change.nd rfl (.inl rfl) ((pm_and (pm_cmp (od_ne (Room.hu64 hr)) (pm_var (pv 6)) (pm_var (pv 5)) (nomark _)) (pm_and (pm_cmp od_lt (pm_lenK (by rfl) m_len (pk_of (pm_ixK (Room.hu1 hr) (pk_var (pv 2)) pm_int (fun _ _ => rfl)))) pm_int (nomark _)) (pm_one (pm_cmp od_lt (pm_var (pv 4)) pm_int (nomark _))))) W t)))
      (pmss_cons (pms_set (i := 8) (fun W t => ps_set (i := 8) sc__law_change.nd rfl (.inl rfl) ((pm_word (P := p_code) (k := k) (q := lamQ "_law_change") (by exact w__law_word.gets) (by rfl) (by exact t_code) (by rfl) (hr.mono (by omega)) (by rfl) (by exact LamX.lamS_by (sc := defScope s__law_change) (by decide +kernel)) (by rfl) (by exact fun _ _ _ _ _ => rfl) (by exact fun A outer s H E f c' hr => (pm_callF c__law_grown (hr.mono (by omega)) (by rfl) (pma_cons (pm_var (pv 1)) (pma_cons (pm_var (pv 6)) pma_nil))))) W t)))
      (pmss_cons (pms_if (pmt_val (pm_var (pv 7))) (pmss_one (pms_ret (pm_ifExp (pmt_cmp (od_eq (Room.hu64 hr)) (pm_var (pv 8)) pm_str (nomark _)) (pm_op od_add (pm_slice sld (pm_var (pv 2)) (.inl ⟨rfl, rfl⟩) (.inr ⟨_, _, rfl, rfl, pm_int⟩)) (pm_tup (pma_cons (pm_op od_add (pm_ixK (Room.hu1 hr) (pk_var (pv 2)) pm_int (fun _ _ => rfl)) (pm_tup (pma_cons (pm_var (pv 6)) pma_nil))) pma_nil))) pm_non))) pmss_nil)
      (pmss_one (pms_ret (pm_ifExp (pmt_cmp (od_eq (Room.hu64 hr)) (pm_var (pv 8)) pm_str (nomark _)) (pm_var (pv 2)) pm_non)))))))) pmss_nil)
      (pmss_cons (pms_if (pmt_cmp od_lt (pm_var (pv 3)) pm_int (nomark _)) (pmss_cons (pms_set (i := 9) (fun W t => ps_set (i := 9) sc__law_change.nd rfl (.inr rfl) ((pm_callF c__law_of (hr.mono (by omega)) (by rfl) (pma_cons (pm_var (pv 0)) (pma_cons (pm_lst (pma_cons (pm_callF c__law_draw (hr.mono (by omega)) (by rfl) (pma_cons (pm_var (pv 0)) (pma_cons (pm_op od_add (pm_var (pv 4)) pm_int) pma_nil))) (pma_cons (pm_callF c__law_draw (hr.mono (by omega)) (by rfl) (pma_cons (pm_var (pv 0)) (pma_cons (pm_op od_add (pm_var (pv 4)) pm_int) pma_nil))) (pma_cons (pm_un ud_neg pm_int) (pma_cons pm_non (pma_cons pm_bl pma_nil)))))) pma_nil))) W t)))
      (pmss_cons (pms_set (i := 8) (fun W t => ps_set (i := 8) sc__law_change.nd rfl (.inl rfl) ((pm_word (P := p_code) (k := k) (q := lamQ "_law_change") (by exact w__law_word.gets) (by rfl) (by exact t_code) (by rfl) (hr.mono (by omega)) (by rfl) (by exact LamX.lamS_by (sc := defScope s__law_change) (by decide +kernel)) (by rfl) (by exact fun _ _ _ _ _ => rfl) (by exact fun A outer s H E f c' hr => (pm_callF c__law_fewer (hr.mono (by omega)) (by rfl) (pma_cons (pm_var (pv 1)) (pma_cons (pm_var (pv 9)) pma_nil))))) W t)))
      (pmss_cons (pms_if (pmt_w (pmw_and (pmt_val (pm_callB cd_isi (by rfl) m_isinstance (by decide +kernel) (pma_cons (pm_var (pv 9)) (pma_cons (pm_ty (by rfl) m_int boot_int) pma_nil)))) (pmw_and (pmt_not (pmt_val (pm_callB cd_isi (by rfl) m_isinstance (by decide +kernel) (pma_cons (pm_var (pv 9)) (pma_cons (pm_ty (by rfl) m_bool boot_bool) pma_nil))))) (pmw_and1 (pmt_chain od_le od_lt pm_int (pm_var (pv 9)) (pm_var (pv 4))))))) (pmss_one (pms_ret (pm_ifExp (pmt_cmp (od_eq (Room.hu64 hr)) (pm_var (pv 8)) pm_str (nomark _)) (pm_callF c__law_less (hr.mono (by omega)) (by rfl) (pma_cons (pm_var (pv 2)) (pma_cons (pm_var (pv 9)) pma_nil))) pm_non))) pmss_nil)
      (pmss_one (pms_ret (pm_ifExp (pmt_cmp (od_eq (Room.hu64 hr)) (pm_var (pv 8)) pm_str (nomark _)) (pm_var (pv 2)) pm_non)))))) pmss_nil)
      (pmss_cons (pms_set (i := 10) (fun W t => ps_set (i := 10) sc__law_change.nd rfl (.inr rfl) ((pm_callF c__law_of (hr.mono (by omega)) (by rfl) (pma_cons (pm_var (pv 0)) (pma_cons (pm_lst (pma_cons (pm_callF c__law_draw (hr.mono (by omega)) (by rfl) (pma_cons (pm_var (pv 0)) (pma_cons pm_int pma_nil))) (pma_cons (pm_callF c__law_draw (hr.mono (by omega)) (by rfl) (pma_cons (pm_var (pv 0)) (pma_cons pm_int pma_nil))) (pma_cons pm_int (pma_cons (pm_un ud_neg pm_int) (pma_cons pm_non (pma_cons pm_bl pma_nil))))))) pma_nil))) W t)))
      (pmss_cons (pms_set (i := 8) (fun W t => ps_set (i := 8) sc__law_change.nd rfl (.inl rfl) ((pm_word (P := p_code) (k := k) (q := lamQ "_law_change") (by exact w__law_word.gets) (by rfl) (by exact t_code) (by rfl) (hr.mono (by omega)) (by rfl) (by exact LamX.lamS_by (sc := defScope s__law_change) (by decide +kernel)) (by rfl) (by exact fun _ _ _ _ _ => rfl) (by exact fun A outer s H E f c' hr => (pm_callF c__law_timed (hr.mono (by omega)) (by rfl) (pma_cons (pm_var (pv 1)) (pma_cons (pm_var (pv 10)) pma_nil))))) W t)))
      (pmss_cons (pms_if (pmt_w (pmw_and (pmt_val (pm_callB cd_isi (by rfl) m_isinstance (by decide +kernel) (pma_cons (pm_var (pv 10)) (pma_cons (pm_ty (by rfl) m_int boot_int) pma_nil)))) (pmw_and (pmt_not (pmt_val (pm_callB cd_isi (by rfl) m_isinstance (by decide +kernel) (pma_cons (pm_var (pv 10)) (pma_cons (pm_ty (by rfl) m_bool boot_bool) pma_nil))))) (pmw_and1 (pmt_chain od_le od_le (pm_ixK (Room.hu1 hr) (pk_var (pv 2)) pm_int (fun _ _ => rfl)) (pm_var (pv 10)) pm_int))))) (pmss_one (pms_ret (pm_ifExp (pmt_cmp (od_eq (Room.hu64 hr)) (pm_var (pv 8)) pm_str (nomark _)) (pm_op od_add (pm_tup (pma_cons (pm_ixK (Room.hu1 hr) (pk_var (pv 2)) pm_int (fun _ _ => rfl)) (pma_cons (pm_var (pv 10)) pma_nil))) (pm_slice sld (pm_var (pv 2)) (.inr ⟨_, _, rfl, rfl, pm_int⟩) (.inl ⟨rfl, rfl⟩))) pm_non))) pmss_nil)
      (pmss_one (pms_ret (pm_ifExp (pmt_cmp (od_eq (Room.hu64 hr)) (pm_var (pv 8)) pm_str (nomark _)) (pm_var (pv 2)) pm_non))))))))), ?_⟩
  rintro ds Wo Q E' - ⟨a, p, L, rfl, hL, hs, hw, hP, q⟩
  have hB := (okL_iff.mp hL).2.1
  have l8 := (okB_iff.mp hB).1
  have h12 := (okL_iff.mp hL).2.2
  have pa : p ≠ a := by
    rintro rfl
    obtain ⟨x, y, h⟩ := hs
    rw [show Wo p = _ from hw] at h; cases h
  have ca : p_code ≠ a := by
    rintro rfl
    obtain ⟨x, y, h⟩ := hs
    rw [hP] at h; cases h
  have le : (encSs L.body).length = L.body.length := by rw [encSs_map, List.length_map]
  try simp only [encL, ↓pC, ↓pOp, ↓pUn, ↓pSl, ↓pPart, ↓pNil, ↓pCons, ↓pTup, ↓pLst, ↓pCallB, ↓pTest, ↓pNot, ↓pAnd, ↓pOr, ↓pAndV, ↓pOrV, ↓pNotV, ↓pIf, ↓pNext, ↓pSeq, ↓pBreak, ↓pCont, ↓pDrop, ↓pRet, ↓pRetN, ↓pIfS, ↓pgNil, ↓pgCons, ↓pgTup, ↓pAsg, ↓pRaise, ↓pCall, ↓pIter, ↓pFor, ↓pLc, ↓pYes, ↓pkOf, ↓pIxK, ↓pTabG, ↓pLenK, ↓pChain, ↓pStore, ↓pAppend, ↓pPop, ↓poLst, ↓poDct, ↓pNewW, ↓pRng1, ↓pRng2, ↓pTry, ↓pTryAs, ↓oEq, ↓oNe, ↓oLen, ↓oSum, ↓oAll, ↓oAny, ↓oIsi, start0, List.map_cons, List.map_nil, List.length_cons, List.length_nil, List.cons_append, List.nil_append, List.getElem?_cons_zero, List.getElem?_cons_succ, List.set_cons_zero, List.set_cons_succ, List.replicate, D.bl.injEq, D.int.injEq, D.str.injEq, D.tup.injEq, D.lst.injEq, exists_eq_left', exists_eq_left, Option.some.injEq, Bool.false_eq_true, if_true, if_false, true_and, and_true, false_and, and_false, isi_int, isi_bool, isi_str, isi_tuple, isi_list, isiT_int, isiT_bool, isiT_str, isiT_tuple, isiT_list, Bool.not_true, Bool.not_false, dat_non, dat_bl, dat_int, dat_str, dat_tup, dat_lst, isInt_non, isInt_bl, isInt_int, isInt_str, isInt_tup, isInt_lst, isBool_non, isBool_bl, isBool_int, isBool_str, isBool_tup, isBool_lst, isStr_non, isStr_bl, isStr_int, isStr_str, isStr_tup, isStr_lst, isTup_non, isTup_bl, isTup_int, isTup_str, isTup_tup, isTup_lst, isLst_non, isLst_bl, isLst_int, isLst_str, isLst_tup, isLst_lst, Nat.reduceAdd, Nat.zero_add, sz_0, sz_1, sz_2, sz_3, sz_4, sz_5, sz_6, sz_7, sz_8, sz_9, sz_10, sz_11, sz_12, List.any_cons, List.any_nil, eqD_tup, eqD_str, eqD_int, eqDs_cons, eqDs_nil, eqDs_cn, eqDs_nc, Bool.or_false, Bool.and_true, at0, at1, at2, at3, at4, good_int, good_bl, good_nil, good_nilL, good_non, eqDs_nil_r, eqDs_nil_l, List.isEmpty_nil, List.isEmpty_cons, Bool.and_false, Bool.or_true, Bool.false_or, Bool.true_or, Bool.false_and, Bool.true_and, encB, wipS_mk, List.foldr_cons, List.foldr_nil, con_updW, ↓ixC_ownD, ↓oIx_tup, ↓oIx_lst, ↓oIx_str, ↓lenC_ownL, ↓lenC_ownD, ↓setC_ownD, putC_adr, Own_lst_inj, Con_own_inj, updW_upd, Nat.reduceSub, Nat.sub_self, ↓itD_lst, ↓itD_tup, ↓oInt_i, ↓oCmp_i, ↓oAdd_i, ↓oAdd_s, ↓oAdd_t, ↓oAdd_l, ↓oNeg_i, ↓o1I_i, ↓o2I_i, ↓oSl_t, ↓oSl_l, ↓oList_t, ↓oList_l, ↓oTuple_t, ↓oTuple_l, ↓oIn_t, ↓oIn_l, ↓oIsN_n, ↓ixC_ownLi, ↓setC_ownLi, ixN20, ixN21, ex_int1, ex_int2, ↓pSet_eq, ↓ixK_tup, ↓ixK_lst, ↓ixK_str, ↓ixK_dct, ↓lenK_tup, ↓lenK_lst, ↓lenK_str, ↓pSetO_eq, ↓pPar_eq, ↓kPar_mk, ↓pGet2, ↓pFrzO_eq, ↓kFrz_lst, ↓kFrz_dct, ↓pPairs_nil, ↓pPairs_cons, ↓poDisp, ↓getC_val, isDc_val, ↓poCat, ↓catD_l, ↓pVarV0, ↓pVarV1, ↓pVarV2, ↓pVarV3, ↓pVarV4, ↓pVarV5, ↓pVarV6, ↓pVarV7, ↓pVarV8, ↓pVarV9, ↓pVarV10, ↓pVarL0, ↓pVarL1, ↓pVarL2, ↓pVarL3, ↓pVarL4, ↓pVarL5, ↓pVarL6, ↓pVarL7, ↓pVarL8, ↓pVarL9, ↓pVarL10, ↓pVarD0, ↓pVarD1, ↓pVarD2, ↓pVarD3, ↓pVarD4, ↓pVarD5, ↓pVarD6, ↓pVarD7, ↓pVarD8, ↓pVarD9, ↓pVarD10, ↓pkVarV0, ↓pkVarV1, ↓pkVarV2, ↓pkVarV3, ↓pkVarV4, ↓pkVarV5, ↓pkVarV6, ↓pkVarV7, ↓pkVarV8, ↓pkVarV9, ↓pkVarV10, ↓pkVarO0, ↓pkVarO1, ↓pkVarO2, ↓pkVarO3, ↓pkVarO4, ↓pkVarO5, ↓pkVarO6, ↓pkVarO7, ↓pkVarO8, ↓pkVarO9, ↓pkVarO10, ↓kSetN0, ↓kSetN1, ↓kSetN2, ↓kSetN3, ↓kSetN4, ↓kSetN5, ↓kSetN6, ↓kSetN7, ↓kSetN8, ↓kSetN9, ↓kSetN10, ↓kSetO_N0, ↓kSetO_N1, ↓kSetO_N2, ↓kSetO_N3, ↓kSetO_N4, ↓kSetO_N5, ↓kSetO_N6, ↓kSetO_N7, ↓kSetO_N8, ↓kSetO_N9, ↓kSetO_N10, ↓pgNameN0, ↓pgNameN1, ↓pgNameN2, ↓pgNameN3, ↓pgNameN4, ↓pgNameN5, ↓pgNameN6, ↓pgNameN7, ↓pgNameN8, ↓pgNameN9, ↓pgNameN10, ↓ixS0, ↓ixS1, ↓ixS2, ↓ixS3, ↓ixS4, ↓ixS5, ↓ixS6, ↓ixS7, ↓ixS8, ↓ixS9, ↓ixS10, ↓lenS0, ↓lenS1, ↓lenS2, ↓lenS3, ↓lenS4, ↓lenS5, ↓lenS6, ↓lenS7, ↓lenS8, ↓lenS9, ↓lenS10, ↓setS0, ↓setS1, ↓setS2, ↓setS3, ↓setS4, ↓setS5, ↓setS6, ↓setS7, ↓setS8, ↓setS9, ↓setS10, ↓conS0, ↓conS1, ↓conS2, ↓conS3, ↓conS4, ↓conS5, ↓conS6, ↓conS7, ↓conS8, ↓conS9, ↓conS10, ↓putS0, ↓putS1, ↓putS2, ↓putS3, ↓putS4, ↓putS5, ↓putS6, ↓putS7, ↓putS8, ↓putS9, ↓putS10]
  refine ⟨a, _, rfl, by decide, by decide, hs, fun d W1 h0 h6 d1 => ⟨L.body, rfl, hB, ?_⟩⟩
  have hs1 := d1.src
  have hw1 : Val W1 C_Loop p L := (dr_at d1 pa).trans hw
  have hP1 : W1 p_code = _ := (dr_at d1 ca).trans hP
  have ho1 : ∀ b, b ≠ a → b ≠ p → W1 b = Wo b := fun b h _ => dr_at d1 h
  walk_at "pls"
  refine ite2 (fun c1 => ?_) (fun c1 => ?_)
  · refine ⟨a, _, _, rfl, rfl, by simp, by simp, hs1, fun odd W2 hodd d2 => ⟨a, _, rfl, by decide, by decide, d2.src, fun d3 W3 g0 g4 d3' => ?_⟩⟩
    have hodd : odd ∈ odds := hodd
    have hs3 := d3'.src
    have hw3 : Val W3 C_Loop p L := (dr_at d3' pa).trans ((dr_at d2 pa).trans hw1)
    have hP3 : W3 p_code = _ := (dr_at d3' ca).trans ((dr_at d2 ca).trans hP1)
    have ho3 : ∀ b, b ≠ a → b ≠ p → W3 b = Wo b := fun b h h2 => (dr_at d3' h).trans ((dr_at d2 h).trans (ho1 b h h2))
    obtain ⟨osm, ogd⟩ := odds_small odd hodd
    walk_at "pls"
    refine ite2 (fun c2 => ?_) (fun c2 => ?_)
    · have hno := odds_no (L := L) hodd
      refine ⟨ogd, ogd, ?_⟩
      rw [eqD_refl _ (good_plain ogd)]
      try simp only [↓pWord, ↓pC, ↓pOp, ↓pUn, ↓pSl, ↓pPart, ↓pNil, ↓pCons, ↓pTup, ↓pLst, ↓pCallB, ↓pTest, ↓pNot, ↓pAnd, ↓pOr, ↓pAndV, ↓pOrV, ↓pNotV, ↓pIf, ↓pNext, ↓pSeq, ↓pBreak, ↓pCont, ↓pDrop, ↓pRet, ↓pRetN, ↓pIfS, ↓pgNil, ↓pgCons, ↓pgTup, ↓pAsg, ↓pRaise, ↓pCall, ↓pIter, ↓pFor, ↓pLc, ↓pYes, ↓pkOf, ↓pIxK, ↓pTabG, ↓pLenK, ↓pChain, ↓pStore, ↓pAppend, ↓pPop, ↓poLst, ↓poDct, ↓pNewW, ↓pRng1, ↓pRng2, ↓pTry, ↓pTryAs, ↓oEq, ↓oNe, ↓oLen, ↓oSum, ↓oAll, ↓oAny, ↓oIsi, start0, List.map_cons, List.map_nil, List.length_cons, List.length_nil, List.cons_append, List.nil_append, List.getElem?_cons_zero, List.getElem?_cons_succ, List.set_cons_zero, List.set_cons_succ, List.replicate, D.bl.injEq, D.int.injEq, D.str.injEq, D.tup.injEq, D.lst.injEq, exists_eq_left', exists_eq_left, Option.some.injEq, Bool.false_eq_true, if_true, if_false, true_and, and_true, false_and, and_false, isi_int, isi_bool, isi_str, isi_tuple, isi_list, isiT_int, isiT_bool, isiT_str, isiT_tuple, isiT_list, Bool.not_true, Bool.not_false, dat_non, dat_bl, dat_int, dat_str, dat_tup, dat_lst, isInt_non, isInt_bl, isInt_int, isInt_str, isInt_tup, isInt_lst, isBool_non, isBool_bl, isBool_int, isBool_str, isBool_tup, isBool_lst, isStr_non, isStr_bl, isStr_int, isStr_str, isStr_tup, isStr_lst, isTup_non, isTup_bl, isTup_int, isTup_str, isTup_tup, isTup_lst, isLst_non, isLst_bl, isLst_int, isLst_str, isLst_tup, isLst_lst, Nat.reduceAdd, Nat.zero_add, sz_0, sz_1, sz_2, sz_3, sz_4, sz_5, sz_6, sz_7, sz_8, sz_9, sz_10, sz_11, sz_12, List.any_cons, List.any_nil, eqD_tup, eqD_str, eqD_int, eqDs_cons, eqDs_nil, eqDs_cn, eqDs_nc, Bool.or_false, Bool.and_true, at0, at1, at2, at3, at4, good_int, good_bl, good_nil, good_nilL, good_non, eqDs_nil_r, eqDs_nil_l, List.isEmpty_nil, List.isEmpty_cons, Bool.and_false, Bool.or_true, Bool.false_or, Bool.true_or, Bool.false_and, Bool.true_and, encB, wipS_mk, List.foldr_cons, List.foldr_nil, con_updW, ↓ixC_ownD, ↓oIx_tup, ↓oIx_lst, ↓oIx_str, ↓lenC_ownL, ↓lenC_ownD, ↓setC_ownD, putC_adr, Own_lst_inj, Con_own_inj, updW_upd, Nat.reduceSub, Nat.sub_self, ↓itD_lst, ↓itD_tup, ↓oInt_i, ↓oCmp_i, ↓oAdd_i, ↓oAdd_s, ↓oAdd_t, ↓oAdd_l, ↓oNeg_i, ↓o1I_i, ↓o2I_i, ↓oSl_t, ↓oSl_l, ↓oList_t, ↓oList_l, ↓oTuple_t, ↓oTuple_l, ↓oIn_t, ↓oIn_l, ↓oIsN_n, ↓ixC_ownLi, ↓setC_ownLi, ixN20, ixN21, ex_int1, ex_int2, ↓pSet_eq, ↓ixK_tup, ↓ixK_lst, ↓ixK_str, ↓ixK_dct, ↓lenK_tup, ↓lenK_lst, ↓lenK_str, ↓pSetO_eq, ↓pPar_eq, ↓kPar_mk, ↓pGet2, ↓pFrzO_eq, ↓kFrz_lst, ↓kFrz_dct, ↓pPairs_nil, ↓pPairs_cons, ↓poDisp, ↓getC_val, isDc_val, ↓poCat, ↓catD_l, ↓pVarV0, ↓pVarV1, ↓pVarV2, ↓pVarV3, ↓pVarV4, ↓pVarV5, ↓pVarV6, ↓pVarV7, ↓pVarV8, ↓pVarV9, ↓pVarV10, ↓pVarL0, ↓pVarL1, ↓pVarL2, ↓pVarL3, ↓pVarL4, ↓pVarL5, ↓pVarL6, ↓pVarL7, ↓pVarL8, ↓pVarL9, ↓pVarL10, ↓pVarD0, ↓pVarD1, ↓pVarD2, ↓pVarD3, ↓pVarD4, ↓pVarD5, ↓pVarD6, ↓pVarD7, ↓pVarD8, ↓pVarD9, ↓pVarD10, ↓pkVarV0, ↓pkVarV1, ↓pkVarV2, ↓pkVarV3, ↓pkVarV4, ↓pkVarV5, ↓pkVarV6, ↓pkVarV7, ↓pkVarV8, ↓pkVarV9, ↓pkVarV10, ↓pkVarO0, ↓pkVarO1, ↓pkVarO2, ↓pkVarO3, ↓pkVarO4, ↓pkVarO5, ↓pkVarO6, ↓pkVarO7, ↓pkVarO8, ↓pkVarO9, ↓pkVarO10, ↓kSetN0, ↓kSetN1, ↓kSetN2, ↓kSetN3, ↓kSetN4, ↓kSetN5, ↓kSetN6, ↓kSetN7, ↓kSetN8, ↓kSetN9, ↓kSetN10, ↓kSetO_N0, ↓kSetO_N1, ↓kSetO_N2, ↓kSetO_N3, ↓kSetO_N4, ↓kSetO_N5, ↓kSetO_N6, ↓kSetO_N7, ↓kSetO_N8, ↓kSetO_N9, ↓kSetO_N10, ↓pgNameN0, ↓pgNameN1, ↓pgNameN2, ↓pgNameN3, ↓pgNameN4, ↓pgNameN5, ↓pgNameN6, ↓pgNameN7, ↓pgNameN8, ↓pgNameN9, ↓pgNameN10, ↓ixS0, ↓ixS1, ↓ixS2, ↓ixS3, ↓ixS4, ↓ixS5, ↓ixS6, ↓ixS7, ↓ixS8, ↓ixS9, ↓ixS10, ↓lenS0, ↓lenS1, ↓lenS2, ↓lenS3, ↓lenS4, ↓lenS5, ↓lenS6, ↓lenS7, ↓lenS8, ↓lenS9, ↓lenS10, ↓setS0, ↓setS1, ↓setS2, ↓setS3, ↓setS4, ↓setS5, ↓setS6, ↓setS7, ↓setS8, ↓setS9, ↓setS10, ↓conS0, ↓conS1, ↓conS2, ↓conS3, ↓conS4, ↓conS5, ↓conS6, ↓conS7, ↓conS8, ↓conS9, ↓conS10, ↓putS0, ↓putS1, ↓putS2, ↓putS3, ↓putS4, ↓putS5, ↓putS6, ↓putS7, ↓putS8, ↓putS9, ↓putS10]
      refine ⟨hP3, p, L, odd, rfl, hL, hw3, osm, fun L' hL' e => absurd (isLoop_iff.mpr ⟨L', hL', e.symm⟩) (by rw [hno]; decide), fun _ => ⟨true, e1, fun _ => ?_, fun h => by cases h⟩⟩
      try simp only [wg2, beq_self_eq_true, ↓pC, ↓pOp, ↓pUn, ↓pSl, ↓pPart, ↓pNil, ↓pCons, ↓pTup, ↓pLst, ↓pCallB, ↓pTest, ↓pNot, ↓pAnd, ↓pOr, ↓pAndV, ↓pOrV, ↓pNotV, ↓pIf, ↓pNext, ↓pSeq, ↓pBreak, ↓pCont, ↓pDrop, ↓pRet, ↓pRetN, ↓pIfS, ↓pgNil, ↓pgCons, ↓pgTup, ↓pAsg, ↓pRaise, ↓pCall, ↓pIter, ↓pFor, ↓pLc, ↓pYes, ↓pkOf, ↓pIxK, ↓pTabG, ↓pLenK, ↓pChain, ↓pStore, ↓pAppend, ↓pPop, ↓poLst, ↓poDct, ↓pNewW, ↓pRng1, ↓pRng2, ↓pTry, ↓pTryAs, ↓oEq, ↓oNe, ↓oLen, ↓oSum, ↓oAll, ↓oAny, ↓oIsi, start0, List.map_cons, List.map_nil, List.length_cons, List.length_nil, List.cons_append, List.nil_append, List.getElem?_cons_zero, List.getElem?_cons_succ, List.set_cons_zero, List.set_cons_succ, List.replicate, D.bl.injEq, D.int.injEq, D.str.injEq, D.tup.injEq, D.lst.injEq, exists_eq_left', exists_eq_left, Option.some.injEq, Bool.false_eq_true, if_true, if_false, true_and, and_true, false_and, and_false, isi_int, isi_bool, isi_str, isi_tuple, isi_list, isiT_int, isiT_bool, isiT_str, isiT_tuple, isiT_list, Bool.not_true, Bool.not_false, dat_non, dat_bl, dat_int, dat_str, dat_tup, dat_lst, isInt_non, isInt_bl, isInt_int, isInt_str, isInt_tup, isInt_lst, isBool_non, isBool_bl, isBool_int, isBool_str, isBool_tup, isBool_lst, isStr_non, isStr_bl, isStr_int, isStr_str, isStr_tup, isStr_lst, isTup_non, isTup_bl, isTup_int, isTup_str, isTup_tup, isTup_lst, isLst_non, isLst_bl, isLst_int, isLst_str, isLst_tup, isLst_lst, Nat.reduceAdd, Nat.zero_add, sz_0, sz_1, sz_2, sz_3, sz_4, sz_5, sz_6, sz_7, sz_8, sz_9, sz_10, sz_11, sz_12, List.any_cons, List.any_nil, eqD_tup, eqD_str, eqD_int, eqDs_cons, eqDs_nil, eqDs_cn, eqDs_nc, Bool.or_false, Bool.and_true, at0, at1, at2, at3, at4, good_int, good_bl, good_nil, good_nilL, good_non, eqDs_nil_r, eqDs_nil_l, List.isEmpty_nil, List.isEmpty_cons, Bool.and_false, Bool.or_true, Bool.false_or, Bool.true_or, Bool.false_and, Bool.true_and, encB, wipS_mk, List.foldr_cons, List.foldr_nil, con_updW, ↓ixC_ownD, ↓oIx_tup, ↓oIx_lst, ↓oIx_str, ↓lenC_ownL, ↓lenC_ownD, ↓setC_ownD, putC_adr, Own_lst_inj, Con_own_inj, updW_upd, Nat.reduceSub, Nat.sub_self, ↓itD_lst, ↓itD_tup, ↓oInt_i, ↓oCmp_i, ↓oAdd_i, ↓oAdd_s, ↓oAdd_t, ↓oAdd_l, ↓oNeg_i, ↓o1I_i, ↓o2I_i, ↓oSl_t, ↓oSl_l, ↓oList_t, ↓oList_l, ↓oTuple_t, ↓oTuple_l, ↓oIn_t, ↓oIn_l, ↓oIsN_n, ↓ixC_ownLi, ↓setC_ownLi, ixN20, ixN21, ex_int1, ex_int2, ↓pSet_eq, ↓ixK_tup, ↓ixK_lst, ↓ixK_str, ↓ixK_dct, ↓lenK_tup, ↓lenK_lst, ↓lenK_str, ↓pSetO_eq, ↓pPar_eq, ↓kPar_mk, ↓pGet2, ↓pFrzO_eq, ↓kFrz_lst, ↓kFrz_dct, ↓pPairs_nil, ↓pPairs_cons, ↓poDisp, ↓getC_val, isDc_val, ↓poCat, ↓catD_l, ↓pVarV0, ↓pVarV1, ↓pVarV2, ↓pVarV3, ↓pVarV4, ↓pVarV5, ↓pVarV6, ↓pVarV7, ↓pVarV8, ↓pVarV9, ↓pVarV10, ↓pVarL0, ↓pVarL1, ↓pVarL2, ↓pVarL3, ↓pVarL4, ↓pVarL5, ↓pVarL6, ↓pVarL7, ↓pVarL8, ↓pVarL9, ↓pVarL10, ↓pVarD0, ↓pVarD1, ↓pVarD2, ↓pVarD3, ↓pVarD4, ↓pVarD5, ↓pVarD6, ↓pVarD7, ↓pVarD8, ↓pVarD9, ↓pVarD10, ↓pkVarV0, ↓pkVarV1, ↓pkVarV2, ↓pkVarV3, ↓pkVarV4, ↓pkVarV5, ↓pkVarV6, ↓pkVarV7, ↓pkVarV8, ↓pkVarV9, ↓pkVarV10, ↓pkVarO0, ↓pkVarO1, ↓pkVarO2, ↓pkVarO3, ↓pkVarO4, ↓pkVarO5, ↓pkVarO6, ↓pkVarO7, ↓pkVarO8, ↓pkVarO9, ↓pkVarO10, ↓kSetN0, ↓kSetN1, ↓kSetN2, ↓kSetN3, ↓kSetN4, ↓kSetN5, ↓kSetN6, ↓kSetN7, ↓kSetN8, ↓kSetN9, ↓kSetN10, ↓kSetO_N0, ↓kSetO_N1, ↓kSetO_N2, ↓kSetO_N3, ↓kSetO_N4, ↓kSetO_N5, ↓kSetO_N6, ↓kSetO_N7, ↓kSetO_N8, ↓kSetO_N9, ↓kSetO_N10, ↓pgNameN0, ↓pgNameN1, ↓pgNameN2, ↓pgNameN3, ↓pgNameN4, ↓pgNameN5, ↓pgNameN6, ↓pgNameN7, ↓pgNameN8, ↓pgNameN9, ↓pgNameN10, ↓ixS0, ↓ixS1, ↓ixS2, ↓ixS3, ↓ixS4, ↓ixS5, ↓ixS6, ↓ixS7, ↓ixS8, ↓ixS9, ↓ixS10, ↓lenS0, ↓lenS1, ↓lenS2, ↓lenS3, ↓lenS4, ↓lenS5, ↓lenS6, ↓lenS7, ↓lenS8, ↓lenS9, ↓lenS10, ↓setS0, ↓setS1, ↓setS2, ↓setS3, ↓setS4, ↓setS5, ↓setS6, ↓setS7, ↓setS8, ↓setS9, ↓setS10, ↓conS0, ↓conS1, ↓conS2, ↓conS3, ↓conS4, ↓conS5, ↓conS6, ↓conS7, ↓conS8, ↓conS9, ↓conS10, ↓putS0, ↓putS1, ↓putS2, ↓putS3, ↓putS4, ↓putS5, ↓putS6, ↓putS7, ↓putS8, ↓putS9, ↓putS10]
      exact q L W3 hL hw3 hs3 ho3
    · refine ⟨a, rfl, hs3, fun s W4 hsim d4 => ?_⟩
      have hs4 := d4.src
      have hw4 : Val W4 C_Loop p L := (dr_at d4 pa).trans hw3
      have hP4 : W4 p_code = _ := (dr_at d4 ca).trans hP3
      have ho4 : ∀ b, b ≠ a → b ≠ p → W4 b = Wo b := fun b h h2 => (dr_at d4 h).trans (ho3 b h h2)
      have os3 : okS 3 s = true := simS_ok hsim 2
      walk_at "pls"
      refine ⟨good_S os3, ogd, ?_⟩
      rw [odds_ne hsim hodd, le]
      walk_at "pls"
      refine ite2 (fun c8 => ?_) (fun c8 => ?_)
      · have c8 : L.body.length < 8 := by have := of_decide_eq_true c8; omega
        by_cases c12 : ((listedB L.body).length : Int) < 12
        · have hok := (snoc_iff hL hsim).mpr ⟨c8, by omega⟩
          try simp only [↓pWord, c12, ↓pC, ↓pOp, ↓pUn, ↓pSl, ↓pPart, ↓pNil, ↓pCons, ↓pTup, ↓pLst, ↓pCallB, ↓pTest, ↓pNot, ↓pAnd, ↓pOr, ↓pAndV, ↓pOrV, ↓pNotV, ↓pIf, ↓pNext, ↓pSeq, ↓pBreak, ↓pCont, ↓pDrop, ↓pRet, ↓pRetN, ↓pIfS, ↓pgNil, ↓pgCons, ↓pgTup, ↓pAsg, ↓pRaise, ↓pCall, ↓pIter, ↓pFor, ↓pLc, ↓pYes, ↓pkOf, ↓pIxK, ↓pTabG, ↓pLenK, ↓pChain, ↓pStore, ↓pAppend, ↓pPop, ↓poLst, ↓poDct, ↓pNewW, ↓pRng1, ↓pRng2, ↓pTry, ↓pTryAs, ↓oEq, ↓oNe, ↓oLen, ↓oSum, ↓oAll, ↓oAny, ↓oIsi, start0, List.map_cons, List.map_nil, List.length_cons, List.length_nil, List.cons_append, List.nil_append, List.getElem?_cons_zero, List.getElem?_cons_succ, List.set_cons_zero, List.set_cons_succ, List.replicate, D.bl.injEq, D.int.injEq, D.str.injEq, D.tup.injEq, D.lst.injEq, exists_eq_left', exists_eq_left, Option.some.injEq, Bool.false_eq_true, if_true, if_false, true_and, and_true, false_and, and_false, isi_int, isi_bool, isi_str, isi_tuple, isi_list, isiT_int, isiT_bool, isiT_str, isiT_tuple, isiT_list, Bool.not_true, Bool.not_false, dat_non, dat_bl, dat_int, dat_str, dat_tup, dat_lst, isInt_non, isInt_bl, isInt_int, isInt_str, isInt_tup, isInt_lst, isBool_non, isBool_bl, isBool_int, isBool_str, isBool_tup, isBool_lst, isStr_non, isStr_bl, isStr_int, isStr_str, isStr_tup, isStr_lst, isTup_non, isTup_bl, isTup_int, isTup_str, isTup_tup, isTup_lst, isLst_non, isLst_bl, isLst_int, isLst_str, isLst_tup, isLst_lst, Nat.reduceAdd, Nat.zero_add, sz_0, sz_1, sz_2, sz_3, sz_4, sz_5, sz_6, sz_7, sz_8, sz_9, sz_10, sz_11, sz_12, List.any_cons, List.any_nil, eqD_tup, eqD_str, eqD_int, eqDs_cons, eqDs_nil, eqDs_cn, eqDs_nc, Bool.or_false, Bool.and_true, at0, at1, at2, at3, at4, good_int, good_bl, good_nil, good_nilL, good_non, eqDs_nil_r, eqDs_nil_l, List.isEmpty_nil, List.isEmpty_cons, Bool.and_false, Bool.or_true, Bool.false_or, Bool.true_or, Bool.false_and, Bool.true_and, encB, wipS_mk, List.foldr_cons, List.foldr_nil, con_updW, ↓ixC_ownD, ↓oIx_tup, ↓oIx_lst, ↓oIx_str, ↓lenC_ownL, ↓lenC_ownD, ↓setC_ownD, putC_adr, Own_lst_inj, Con_own_inj, updW_upd, Nat.reduceSub, Nat.sub_self, ↓itD_lst, ↓itD_tup, ↓oInt_i, ↓oCmp_i, ↓oAdd_i, ↓oAdd_s, ↓oAdd_t, ↓oAdd_l, ↓oNeg_i, ↓o1I_i, ↓o2I_i, ↓oSl_t, ↓oSl_l, ↓oList_t, ↓oList_l, ↓oTuple_t, ↓oTuple_l, ↓oIn_t, ↓oIn_l, ↓oIsN_n, ↓ixC_ownLi, ↓setC_ownLi, ixN20, ixN21, ex_int1, ex_int2, ↓pSet_eq, ↓ixK_tup, ↓ixK_lst, ↓ixK_str, ↓ixK_dct, ↓lenK_tup, ↓lenK_lst, ↓lenK_str, ↓pSetO_eq, ↓pPar_eq, ↓kPar_mk, ↓pGet2, ↓pFrzO_eq, ↓kFrz_lst, ↓kFrz_dct, ↓pPairs_nil, ↓pPairs_cons, ↓poDisp, ↓getC_val, isDc_val, ↓poCat, ↓catD_l, ↓pVarV0, ↓pVarV1, ↓pVarV2, ↓pVarV3, ↓pVarV4, ↓pVarV5, ↓pVarV6, ↓pVarV7, ↓pVarV8, ↓pVarV9, ↓pVarV10, ↓pVarL0, ↓pVarL1, ↓pVarL2, ↓pVarL3, ↓pVarL4, ↓pVarL5, ↓pVarL6, ↓pVarL7, ↓pVarL8, ↓pVarL9, ↓pVarL10, ↓pVarD0, ↓pVarD1, ↓pVarD2, ↓pVarD3, ↓pVarD4, ↓pVarD5, ↓pVarD6, ↓pVarD7, ↓pVarD8, ↓pVarD9, ↓pVarD10, ↓pkVarV0, ↓pkVarV1, ↓pkVarV2, ↓pkVarV3, ↓pkVarV4, ↓pkVarV5, ↓pkVarV6, ↓pkVarV7, ↓pkVarV8, ↓pkVarV9, ↓pkVarV10, ↓pkVarO0, ↓pkVarO1, ↓pkVarO2, ↓pkVarO3, ↓pkVarO4, ↓pkVarO5, ↓pkVarO6, ↓pkVarO7, ↓pkVarO8, ↓pkVarO9, ↓pkVarO10, ↓kSetN0, ↓kSetN1, ↓kSetN2, ↓kSetN3, ↓kSetN4, ↓kSetN5, ↓kSetN6, ↓kSetN7, ↓kSetN8, ↓kSetN9, ↓kSetN10, ↓kSetO_N0, ↓kSetO_N1, ↓kSetO_N2, ↓kSetO_N3, ↓kSetO_N4, ↓kSetO_N5, ↓kSetO_N6, ↓kSetO_N7, ↓kSetO_N8, ↓kSetO_N9, ↓kSetO_N10, ↓pgNameN0, ↓pgNameN1, ↓pgNameN2, ↓pgNameN3, ↓pgNameN4, ↓pgNameN5, ↓pgNameN6, ↓pgNameN7, ↓pgNameN8, ↓pgNameN9, ↓pgNameN10, ↓ixS0, ↓ixS1, ↓ixS2, ↓ixS3, ↓ixS4, ↓ixS5, ↓ixS6, ↓ixS7, ↓ixS8, ↓ixS9, ↓ixS10, ↓lenS0, ↓lenS1, ↓lenS2, ↓lenS3, ↓lenS4, ↓lenS5, ↓lenS6, ↓lenS7, ↓lenS8, ↓lenS9, ↓lenS10, ↓setS0, ↓setS1, ↓setS2, ↓setS3, ↓setS4, ↓setS5, ↓setS6, ↓setS7, ↓setS8, ↓setS9, ↓setS10, ↓conS0, ↓conS1, ↓conS2, ↓conS3, ↓conS4, ↓conS5, ↓conS6, ↓conS7, ↓conS8, ↓conS9, ↓conS10, ↓putS0, ↓putS1, ↓putS2, ↓putS3, ↓putS4, ↓putS5, ↓putS6, ↓putS7, ↓putS8, ↓putS9, ↓putS10]
          refine ⟨hP4, p, L, encS s, rfl, hL, hw4, small_S os3, fun L' hL' e => ?_, fun h => absurd (add_iff.mpr ⟨s, rfl, hok⟩) (by rw [h]; decide)⟩
          try simp only [c12, decide_true, wg1, beq_self_eq_true, ↓pC, ↓pOp, ↓pUn, ↓pSl, ↓pPart, ↓pNil, ↓pCons, ↓pTup, ↓pLst, ↓pCallB, ↓pTest, ↓pNot, ↓pAnd, ↓pOr, ↓pAndV, ↓pOrV, ↓pNotV, ↓pIf, ↓pNext, ↓pSeq, ↓pBreak, ↓pCont, ↓pDrop, ↓pRet, ↓pRetN, ↓pIfS, ↓pgNil, ↓pgCons, ↓pgTup, ↓pAsg, ↓pRaise, ↓pCall, ↓pIter, ↓pFor, ↓pLc, ↓pYes, ↓pkOf, ↓pIxK, ↓pTabG, ↓pLenK, ↓pChain, ↓pStore, ↓pAppend, ↓pPop, ↓poLst, ↓poDct, ↓pNewW, ↓pRng1, ↓pRng2, ↓pTry, ↓pTryAs, ↓oEq, ↓oNe, ↓oLen, ↓oSum, ↓oAll, ↓oAny, ↓oIsi, start0, List.map_cons, List.map_nil, List.length_cons, List.length_nil, List.cons_append, List.nil_append, List.getElem?_cons_zero, List.getElem?_cons_succ, List.set_cons_zero, List.set_cons_succ, List.replicate, D.bl.injEq, D.int.injEq, D.str.injEq, D.tup.injEq, D.lst.injEq, exists_eq_left', exists_eq_left, Option.some.injEq, Bool.false_eq_true, if_true, if_false, true_and, and_true, false_and, and_false, isi_int, isi_bool, isi_str, isi_tuple, isi_list, isiT_int, isiT_bool, isiT_str, isiT_tuple, isiT_list, Bool.not_true, Bool.not_false, dat_non, dat_bl, dat_int, dat_str, dat_tup, dat_lst, isInt_non, isInt_bl, isInt_int, isInt_str, isInt_tup, isInt_lst, isBool_non, isBool_bl, isBool_int, isBool_str, isBool_tup, isBool_lst, isStr_non, isStr_bl, isStr_int, isStr_str, isStr_tup, isStr_lst, isTup_non, isTup_bl, isTup_int, isTup_str, isTup_tup, isTup_lst, isLst_non, isLst_bl, isLst_int, isLst_str, isLst_tup, isLst_lst, Nat.reduceAdd, Nat.zero_add, sz_0, sz_1, sz_2, sz_3, sz_4, sz_5, sz_6, sz_7, sz_8, sz_9, sz_10, sz_11, sz_12, List.any_cons, List.any_nil, eqD_tup, eqD_str, eqD_int, eqDs_cons, eqDs_nil, eqDs_cn, eqDs_nc, Bool.or_false, Bool.and_true, at0, at1, at2, at3, at4, good_int, good_bl, good_nil, good_nilL, good_non, eqDs_nil_r, eqDs_nil_l, List.isEmpty_nil, List.isEmpty_cons, Bool.and_false, Bool.or_true, Bool.false_or, Bool.true_or, Bool.false_and, Bool.true_and, encB, wipS_mk, List.foldr_cons, List.foldr_nil, con_updW, ↓ixC_ownD, ↓oIx_tup, ↓oIx_lst, ↓oIx_str, ↓lenC_ownL, ↓lenC_ownD, ↓setC_ownD, putC_adr, Own_lst_inj, Con_own_inj, updW_upd, Nat.reduceSub, Nat.sub_self, ↓itD_lst, ↓itD_tup, ↓oInt_i, ↓oCmp_i, ↓oAdd_i, ↓oAdd_s, ↓oAdd_t, ↓oAdd_l, ↓oNeg_i, ↓o1I_i, ↓o2I_i, ↓oSl_t, ↓oSl_l, ↓oList_t, ↓oList_l, ↓oTuple_t, ↓oTuple_l, ↓oIn_t, ↓oIn_l, ↓oIsN_n, ↓ixC_ownLi, ↓setC_ownLi, ixN20, ixN21, ex_int1, ex_int2, ↓pSet_eq, ↓ixK_tup, ↓ixK_lst, ↓ixK_str, ↓ixK_dct, ↓lenK_tup, ↓lenK_lst, ↓lenK_str, ↓pSetO_eq, ↓pPar_eq, ↓kPar_mk, ↓pGet2, ↓pFrzO_eq, ↓kFrz_lst, ↓kFrz_dct, ↓pPairs_nil, ↓pPairs_cons, ↓poDisp, ↓getC_val, isDc_val, ↓poCat, ↓catD_l, ↓pVarV0, ↓pVarV1, ↓pVarV2, ↓pVarV3, ↓pVarV4, ↓pVarV5, ↓pVarV6, ↓pVarV7, ↓pVarV8, ↓pVarV9, ↓pVarV10, ↓pVarL0, ↓pVarL1, ↓pVarL2, ↓pVarL3, ↓pVarL4, ↓pVarL5, ↓pVarL6, ↓pVarL7, ↓pVarL8, ↓pVarL9, ↓pVarL10, ↓pVarD0, ↓pVarD1, ↓pVarD2, ↓pVarD3, ↓pVarD4, ↓pVarD5, ↓pVarD6, ↓pVarD7, ↓pVarD8, ↓pVarD9, ↓pVarD10, ↓pkVarV0, ↓pkVarV1, ↓pkVarV2, ↓pkVarV3, ↓pkVarV4, ↓pkVarV5, ↓pkVarV6, ↓pkVarV7, ↓pkVarV8, ↓pkVarV9, ↓pkVarV10, ↓pkVarO0, ↓pkVarO1, ↓pkVarO2, ↓pkVarO3, ↓pkVarO4, ↓pkVarO5, ↓pkVarO6, ↓pkVarO7, ↓pkVarO8, ↓pkVarO9, ↓pkVarO10, ↓kSetN0, ↓kSetN1, ↓kSetN2, ↓kSetN3, ↓kSetN4, ↓kSetN5, ↓kSetN6, ↓kSetN7, ↓kSetN8, ↓kSetN9, ↓kSetN10, ↓kSetO_N0, ↓kSetO_N1, ↓kSetO_N2, ↓kSetO_N3, ↓kSetO_N4, ↓kSetO_N5, ↓kSetO_N6, ↓kSetO_N7, ↓kSetO_N8, ↓kSetO_N9, ↓kSetO_N10, ↓pgNameN0, ↓pgNameN1, ↓pgNameN2, ↓pgNameN3, ↓pgNameN4, ↓pgNameN5, ↓pgNameN6, ↓pgNameN7, ↓pgNameN8, ↓pgNameN9, ↓pgNameN10, ↓ixS0, ↓ixS1, ↓ixS2, ↓ixS3, ↓ixS4, ↓ixS5, ↓ixS6, ↓ixS7, ↓ixS8, ↓ixS9, ↓ixS10, ↓lenS0, ↓lenS1, ↓lenS2, ↓lenS3, ↓lenS4, ↓lenS5, ↓lenS6, ↓lenS7, ↓lenS8, ↓lenS9, ↓lenS10, ↓setS0, ↓setS1, ↓setS2, ↓setS3, ↓setS4, ↓setS5, ↓setS6, ↓setS7, ↓setS8, ↓setS9, ↓setS10, ↓conS0, ↓conS1, ↓conS2, ↓conS3, ↓conS4, ↓conS5, ↓conS6, ↓conS7, ↓conS8, ↓conS9, ↓conS10, ↓putS0, ↓putS1, ↓putS2, ↓putS3, ↓putS4, ↓putS5, ↓putS6, ↓putS7, ↓putS8, ↓putS9, ↓putS10]
          refine ⟨by show _ ≤ 2 ^ 24; omega, cut_len L, ?_⟩
          rw [cut_add, ← e]
          exact q L' _ hL' updW_val (src_upd hs4 (Ne.symm pa)) (fun b h h2 => (updW_ne h2).trans (ho4 b h h2))
        · have hno := add_no hL hsim (fun h => c12 (by omega))
          try simp only [↓pWord, c12, ↓pC, ↓pOp, ↓pUn, ↓pSl, ↓pPart, ↓pNil, ↓pCons, ↓pTup, ↓pLst, ↓pCallB, ↓pTest, ↓pNot, ↓pAnd, ↓pOr, ↓pAndV, ↓pOrV, ↓pNotV, ↓pIf, ↓pNext, ↓pSeq, ↓pBreak, ↓pCont, ↓pDrop, ↓pRet, ↓pRetN, ↓pIfS, ↓pgNil, ↓pgCons, ↓pgTup, ↓pAsg, ↓pRaise, ↓pCall, ↓pIter, ↓pFor, ↓pLc, ↓pYes, ↓pkOf, ↓pIxK, ↓pTabG, ↓pLenK, ↓pChain, ↓pStore, ↓pAppend, ↓pPop, ↓poLst, ↓poDct, ↓pNewW, ↓pRng1, ↓pRng2, ↓pTry, ↓pTryAs, ↓oEq, ↓oNe, ↓oLen, ↓oSum, ↓oAll, ↓oAny, ↓oIsi, start0, List.map_cons, List.map_nil, List.length_cons, List.length_nil, List.cons_append, List.nil_append, List.getElem?_cons_zero, List.getElem?_cons_succ, List.set_cons_zero, List.set_cons_succ, List.replicate, D.bl.injEq, D.int.injEq, D.str.injEq, D.tup.injEq, D.lst.injEq, exists_eq_left', exists_eq_left, Option.some.injEq, Bool.false_eq_true, if_true, if_false, true_and, and_true, false_and, and_false, isi_int, isi_bool, isi_str, isi_tuple, isi_list, isiT_int, isiT_bool, isiT_str, isiT_tuple, isiT_list, Bool.not_true, Bool.not_false, dat_non, dat_bl, dat_int, dat_str, dat_tup, dat_lst, isInt_non, isInt_bl, isInt_int, isInt_str, isInt_tup, isInt_lst, isBool_non, isBool_bl, isBool_int, isBool_str, isBool_tup, isBool_lst, isStr_non, isStr_bl, isStr_int, isStr_str, isStr_tup, isStr_lst, isTup_non, isTup_bl, isTup_int, isTup_str, isTup_tup, isTup_lst, isLst_non, isLst_bl, isLst_int, isLst_str, isLst_tup, isLst_lst, Nat.reduceAdd, Nat.zero_add, sz_0, sz_1, sz_2, sz_3, sz_4, sz_5, sz_6, sz_7, sz_8, sz_9, sz_10, sz_11, sz_12, List.any_cons, List.any_nil, eqD_tup, eqD_str, eqD_int, eqDs_cons, eqDs_nil, eqDs_cn, eqDs_nc, Bool.or_false, Bool.and_true, at0, at1, at2, at3, at4, good_int, good_bl, good_nil, good_nilL, good_non, eqDs_nil_r, eqDs_nil_l, List.isEmpty_nil, List.isEmpty_cons, Bool.and_false, Bool.or_true, Bool.false_or, Bool.true_or, Bool.false_and, Bool.true_and, encB, wipS_mk, List.foldr_cons, List.foldr_nil, con_updW, ↓ixC_ownD, ↓oIx_tup, ↓oIx_lst, ↓oIx_str, ↓lenC_ownL, ↓lenC_ownD, ↓setC_ownD, putC_adr, Own_lst_inj, Con_own_inj, updW_upd, Nat.reduceSub, Nat.sub_self, ↓itD_lst, ↓itD_tup, ↓oInt_i, ↓oCmp_i, ↓oAdd_i, ↓oAdd_s, ↓oAdd_t, ↓oAdd_l, ↓oNeg_i, ↓o1I_i, ↓o2I_i, ↓oSl_t, ↓oSl_l, ↓oList_t, ↓oList_l, ↓oTuple_t, ↓oTuple_l, ↓oIn_t, ↓oIn_l, ↓oIsN_n, ↓ixC_ownLi, ↓setC_ownLi, ixN20, ixN21, ex_int1, ex_int2, ↓pSet_eq, ↓ixK_tup, ↓ixK_lst, ↓ixK_str, ↓ixK_dct, ↓lenK_tup, ↓lenK_lst, ↓lenK_str, ↓pSetO_eq, ↓pPar_eq, ↓kPar_mk, ↓pGet2, ↓pFrzO_eq, ↓kFrz_lst, ↓kFrz_dct, ↓pPairs_nil, ↓pPairs_cons, ↓poDisp, ↓getC_val, isDc_val, ↓poCat, ↓catD_l, ↓pVarV0, ↓pVarV1, ↓pVarV2, ↓pVarV3, ↓pVarV4, ↓pVarV5, ↓pVarV6, ↓pVarV7, ↓pVarV8, ↓pVarV9, ↓pVarV10, ↓pVarL0, ↓pVarL1, ↓pVarL2, ↓pVarL3, ↓pVarL4, ↓pVarL5, ↓pVarL6, ↓pVarL7, ↓pVarL8, ↓pVarL9, ↓pVarL10, ↓pVarD0, ↓pVarD1, ↓pVarD2, ↓pVarD3, ↓pVarD4, ↓pVarD5, ↓pVarD6, ↓pVarD7, ↓pVarD8, ↓pVarD9, ↓pVarD10, ↓pkVarV0, ↓pkVarV1, ↓pkVarV2, ↓pkVarV3, ↓pkVarV4, ↓pkVarV5, ↓pkVarV6, ↓pkVarV7, ↓pkVarV8, ↓pkVarV9, ↓pkVarV10, ↓pkVarO0, ↓pkVarO1, ↓pkVarO2, ↓pkVarO3, ↓pkVarO4, ↓pkVarO5, ↓pkVarO6, ↓pkVarO7, ↓pkVarO8, ↓pkVarO9, ↓pkVarO10, ↓kSetN0, ↓kSetN1, ↓kSetN2, ↓kSetN3, ↓kSetN4, ↓kSetN5, ↓kSetN6, ↓kSetN7, ↓kSetN8, ↓kSetN9, ↓kSetN10, ↓kSetO_N0, ↓kSetO_N1, ↓kSetO_N2, ↓kSetO_N3, ↓kSetO_N4, ↓kSetO_N5, ↓kSetO_N6, ↓kSetO_N7, ↓kSetO_N8, ↓kSetO_N9, ↓kSetO_N10, ↓pgNameN0, ↓pgNameN1, ↓pgNameN2, ↓pgNameN3, ↓pgNameN4, ↓pgNameN5, ↓pgNameN6, ↓pgNameN7, ↓pgNameN8, ↓pgNameN9, ↓pgNameN10, ↓ixS0, ↓ixS1, ↓ixS2, ↓ixS3, ↓ixS4, ↓ixS5, ↓ixS6, ↓ixS7, ↓ixS8, ↓ixS9, ↓ixS10, ↓lenS0, ↓lenS1, ↓lenS2, ↓lenS3, ↓lenS4, ↓lenS5, ↓lenS6, ↓lenS7, ↓lenS8, ↓lenS9, ↓lenS10, ↓setS0, ↓setS1, ↓setS2, ↓setS3, ↓setS4, ↓setS5, ↓setS6, ↓setS7, ↓setS8, ↓setS9, ↓setS10, ↓conS0, ↓conS1, ↓conS2, ↓conS3, ↓conS4, ↓conS5, ↓conS6, ↓conS7, ↓conS8, ↓conS9, ↓conS10, ↓putS0, ↓putS1, ↓putS2, ↓putS3, ↓putS4, ↓putS5, ↓putS6, ↓putS7, ↓putS8, ↓putS9, ↓putS10]
          refine ⟨hP4, p, L, encS s, rfl, hL, hw4, small_S os3, fun L' hL' e => absurd (isLoop_iff.mpr ⟨L', hL', e.symm⟩) (by rw [hno]; decide), fun _ => ⟨true, e1, fun _ => ?_, fun h => by cases h⟩⟩
          try simp only [c12, decide_false, wg2, beq_self_eq_true, ↓pC, ↓pOp, ↓pUn, ↓pSl, ↓pPart, ↓pNil, ↓pCons, ↓pTup, ↓pLst, ↓pCallB, ↓pTest, ↓pNot, ↓pAnd, ↓pOr, ↓pAndV, ↓pOrV, ↓pNotV, ↓pIf, ↓pNext, ↓pSeq, ↓pBreak, ↓pCont, ↓pDrop, ↓pRet, ↓pRetN, ↓pIfS, ↓pgNil, ↓pgCons, ↓pgTup, ↓pAsg, ↓pRaise, ↓pCall, ↓pIter, ↓pFor, ↓pLc, ↓pYes, ↓pkOf, ↓pIxK, ↓pTabG, ↓pLenK, ↓pChain, ↓pStore, ↓pAppend, ↓pPop, ↓poLst, ↓poDct, ↓pNewW, ↓pRng1, ↓pRng2, ↓pTry, ↓pTryAs, ↓oEq, ↓oNe, ↓oLen, ↓oSum, ↓oAll, ↓oAny, ↓oIsi, start0, List.map_cons, List.map_nil, List.length_cons, List.length_nil, List.cons_append, List.nil_append, List.getElem?_cons_zero, List.getElem?_cons_succ, List.set_cons_zero, List.set_cons_succ, List.replicate, D.bl.injEq, D.int.injEq, D.str.injEq, D.tup.injEq, D.lst.injEq, exists_eq_left', exists_eq_left, Option.some.injEq, Bool.false_eq_true, if_true, if_false, true_and, and_true, false_and, and_false, isi_int, isi_bool, isi_str, isi_tuple, isi_list, isiT_int, isiT_bool, isiT_str, isiT_tuple, isiT_list, Bool.not_true, Bool.not_false, dat_non, dat_bl, dat_int, dat_str, dat_tup, dat_lst, isInt_non, isInt_bl, isInt_int, isInt_str, isInt_tup, isInt_lst, isBool_non, isBool_bl, isBool_int, isBool_str, isBool_tup, isBool_lst, isStr_non, isStr_bl, isStr_int, isStr_str, isStr_tup, isStr_lst, isTup_non, isTup_bl, isTup_int, isTup_str, isTup_tup, isTup_lst, isLst_non, isLst_bl, isLst_int, isLst_str, isLst_tup, isLst_lst, Nat.reduceAdd, Nat.zero_add, sz_0, sz_1, sz_2, sz_3, sz_4, sz_5, sz_6, sz_7, sz_8, sz_9, sz_10, sz_11, sz_12, List.any_cons, List.any_nil, eqD_tup, eqD_str, eqD_int, eqDs_cons, eqDs_nil, eqDs_cn, eqDs_nc, Bool.or_false, Bool.and_true, at0, at1, at2, at3, at4, good_int, good_bl, good_nil, good_nilL, good_non, eqDs_nil_r, eqDs_nil_l, List.isEmpty_nil, List.isEmpty_cons, Bool.and_false, Bool.or_true, Bool.false_or, Bool.true_or, Bool.false_and, Bool.true_and, encB, wipS_mk, List.foldr_cons, List.foldr_nil, con_updW, ↓ixC_ownD, ↓oIx_tup, ↓oIx_lst, ↓oIx_str, ↓lenC_ownL, ↓lenC_ownD, ↓setC_ownD, putC_adr, Own_lst_inj, Con_own_inj, updW_upd, Nat.reduceSub, Nat.sub_self, ↓itD_lst, ↓itD_tup, ↓oInt_i, ↓oCmp_i, ↓oAdd_i, ↓oAdd_s, ↓oAdd_t, ↓oAdd_l, ↓oNeg_i, ↓o1I_i, ↓o2I_i, ↓oSl_t, ↓oSl_l, ↓oList_t, ↓oList_l, ↓oTuple_t, ↓oTuple_l, ↓oIn_t, ↓oIn_l, ↓oIsN_n, ↓ixC_ownLi, ↓setC_ownLi, ixN20, ixN21, ex_int1, ex_int2, ↓pSet_eq, ↓ixK_tup, ↓ixK_lst, ↓ixK_str, ↓ixK_dct, ↓lenK_tup, ↓lenK_lst, ↓lenK_str, ↓pSetO_eq, ↓pPar_eq, ↓kPar_mk, ↓pGet2, ↓pFrzO_eq, ↓kFrz_lst, ↓kFrz_dct, ↓pPairs_nil, ↓pPairs_cons, ↓poDisp, ↓getC_val, isDc_val, ↓poCat, ↓catD_l, ↓pVarV0, ↓pVarV1, ↓pVarV2, ↓pVarV3, ↓pVarV4, ↓pVarV5, ↓pVarV6, ↓pVarV7, ↓pVarV8, ↓pVarV9, ↓pVarV10, ↓pVarL0, ↓pVarL1, ↓pVarL2, ↓pVarL3, ↓pVarL4, ↓pVarL5, ↓pVarL6, ↓pVarL7, ↓pVarL8, ↓pVarL9, ↓pVarL10, ↓pVarD0, ↓pVarD1, ↓pVarD2, ↓pVarD3, ↓pVarD4, ↓pVarD5, ↓pVarD6, ↓pVarD7, ↓pVarD8, ↓pVarD9, ↓pVarD10, ↓pkVarV0, ↓pkVarV1, ↓pkVarV2, ↓pkVarV3, ↓pkVarV4, ↓pkVarV5, ↓pkVarV6, ↓pkVarV7, ↓pkVarV8, ↓pkVarV9, ↓pkVarV10, ↓pkVarO0, ↓pkVarO1, ↓pkVarO2, ↓pkVarO3, ↓pkVarO4, ↓pkVarO5, ↓pkVarO6, ↓pkVarO7, ↓pkVarO8, ↓pkVarO9, ↓pkVarO10, ↓kSetN0, ↓kSetN1, ↓kSetN2, ↓kSetN3, ↓kSetN4, ↓kSetN5, ↓kSetN6, ↓kSetN7, ↓kSetN8, ↓kSetN9, ↓kSetN10, ↓kSetO_N0, ↓kSetO_N1, ↓kSetO_N2, ↓kSetO_N3, ↓kSetO_N4, ↓kSetO_N5, ↓kSetO_N6, ↓kSetO_N7, ↓kSetO_N8, ↓kSetO_N9, ↓kSetO_N10, ↓pgNameN0, ↓pgNameN1, ↓pgNameN2, ↓pgNameN3, ↓pgNameN4, ↓pgNameN5, ↓pgNameN6, ↓pgNameN7, ↓pgNameN8, ↓pgNameN9, ↓pgNameN10, ↓ixS0, ↓ixS1, ↓ixS2, ↓ixS3, ↓ixS4, ↓ixS5, ↓ixS6, ↓ixS7, ↓ixS8, ↓ixS9, ↓ixS10, ↓lenS0, ↓lenS1, ↓lenS2, ↓lenS3, ↓lenS4, ↓lenS5, ↓lenS6, ↓lenS7, ↓lenS8, ↓lenS9, ↓lenS10, ↓setS0, ↓setS1, ↓setS2, ↓setS3, ↓setS4, ↓setS5, ↓setS6, ↓setS7, ↓setS8, ↓setS9, ↓setS10, ↓conS0, ↓conS1, ↓conS2, ↓conS3, ↓conS4, ↓conS5, ↓conS6, ↓conS7, ↓conS8, ↓conS9, ↓conS10, ↓putS0, ↓putS1, ↓putS2, ↓putS3, ↓putS4, ↓putS5, ↓putS6, ↓putS7, ↓putS8, ↓putS9, ↓putS10]
          exact q L W4 hL hw4 hs4 ho4
      · have hno := add_no hL hsim (fun h => c8 (decide_eq_true (by omega)))
        try simp only [↓pWord, ↓pC, ↓pOp, ↓pUn, ↓pSl, ↓pPart, ↓pNil, ↓pCons, ↓pTup, ↓pLst, ↓pCallB, ↓pTest, ↓pNot, ↓pAnd, ↓pOr, ↓pAndV, ↓pOrV, ↓pNotV, ↓pIf, ↓pNext, ↓pSeq, ↓pBreak, ↓pCont, ↓pDrop, ↓pRet, ↓pRetN, ↓pIfS, ↓pgNil, ↓pgCons, ↓pgTup, ↓pAsg, ↓pRaise, ↓pCall, ↓pIter, ↓pFor, ↓pLc, ↓pYes, ↓pkOf, ↓pIxK, ↓pTabG, ↓pLenK, ↓pChain, ↓pStore, ↓pAppend, ↓pPop, ↓poLst, ↓poDct, ↓pNewW, ↓pRng1, ↓pRng2, ↓pTry, ↓pTryAs, ↓oEq, ↓oNe, ↓oLen, ↓oSum, ↓oAll, ↓oAny, ↓oIsi, start0, List.map_cons, List.map_nil, List.length_cons, List.length_nil, List.cons_append, List.nil_append, List.getElem?_cons_zero, List.getElem?_cons_succ, List.set_cons_zero, List.set_cons_succ, List.replicate, D.bl.injEq, D.int.injEq, D.str.injEq, D.tup.injEq, D.lst.injEq, exists_eq_left', exists_eq_left, Option.some.injEq, Bool.false_eq_true, if_true, if_false, true_and, and_true, false_and, and_false, isi_int, isi_bool, isi_str, isi_tuple, isi_list, isiT_int, isiT_bool, isiT_str, isiT_tuple, isiT_list, Bool.not_true, Bool.not_false, dat_non, dat_bl, dat_int, dat_str, dat_tup, dat_lst, isInt_non, isInt_bl, isInt_int, isInt_str, isInt_tup, isInt_lst, isBool_non, isBool_bl, isBool_int, isBool_str, isBool_tup, isBool_lst, isStr_non, isStr_bl, isStr_int, isStr_str, isStr_tup, isStr_lst, isTup_non, isTup_bl, isTup_int, isTup_str, isTup_tup, isTup_lst, isLst_non, isLst_bl, isLst_int, isLst_str, isLst_tup, isLst_lst, Nat.reduceAdd, Nat.zero_add, sz_0, sz_1, sz_2, sz_3, sz_4, sz_5, sz_6, sz_7, sz_8, sz_9, sz_10, sz_11, sz_12, List.any_cons, List.any_nil, eqD_tup, eqD_str, eqD_int, eqDs_cons, eqDs_nil, eqDs_cn, eqDs_nc, Bool.or_false, Bool.and_true, at0, at1, at2, at3, at4, good_int, good_bl, good_nil, good_nilL, good_non, eqDs_nil_r, eqDs_nil_l, List.isEmpty_nil, List.isEmpty_cons, Bool.and_false, Bool.or_true, Bool.false_or, Bool.true_or, Bool.false_and, Bool.true_and, encB, wipS_mk, List.foldr_cons, List.foldr_nil, con_updW, ↓ixC_ownD, ↓oIx_tup, ↓oIx_lst, ↓oIx_str, ↓lenC_ownL, ↓lenC_ownD, ↓setC_ownD, putC_adr, Own_lst_inj, Con_own_inj, updW_upd, Nat.reduceSub, Nat.sub_self, ↓itD_lst, ↓itD_tup, ↓oInt_i, ↓oCmp_i, ↓oAdd_i, ↓oAdd_s, ↓oAdd_t, ↓oAdd_l, ↓oNeg_i, ↓o1I_i, ↓o2I_i, ↓oSl_t, ↓oSl_l, ↓oList_t, ↓oList_l, ↓oTuple_t, ↓oTuple_l, ↓oIn_t, ↓oIn_l, ↓oIsN_n, ↓ixC_ownLi, ↓setC_ownLi, ixN20, ixN21, ex_int1, ex_int2, ↓pSet_eq, ↓ixK_tup, ↓ixK_lst, ↓ixK_str, ↓ixK_dct, ↓lenK_tup, ↓lenK_lst, ↓lenK_str, ↓pSetO_eq, ↓pPar_eq, ↓kPar_mk, ↓pGet2, ↓pFrzO_eq, ↓kFrz_lst, ↓kFrz_dct, ↓pPairs_nil, ↓pPairs_cons, ↓poDisp, ↓getC_val, isDc_val, ↓poCat, ↓catD_l, ↓pVarV0, ↓pVarV1, ↓pVarV2, ↓pVarV3, ↓pVarV4, ↓pVarV5, ↓pVarV6, ↓pVarV7, ↓pVarV8, ↓pVarV9, ↓pVarV10, ↓pVarL0, ↓pVarL1, ↓pVarL2, ↓pVarL3, ↓pVarL4, ↓pVarL5, ↓pVarL6, ↓pVarL7, ↓pVarL8, ↓pVarL9, ↓pVarL10, ↓pVarD0, ↓pVarD1, ↓pVarD2, ↓pVarD3, ↓pVarD4, ↓pVarD5, ↓pVarD6, ↓pVarD7, ↓pVarD8, ↓pVarD9, ↓pVarD10, ↓pkVarV0, ↓pkVarV1, ↓pkVarV2, ↓pkVarV3, ↓pkVarV4, ↓pkVarV5, ↓pkVarV6, ↓pkVarV7, ↓pkVarV8, ↓pkVarV9, ↓pkVarV10, ↓pkVarO0, ↓pkVarO1, ↓pkVarO2, ↓pkVarO3, ↓pkVarO4, ↓pkVarO5, ↓pkVarO6, ↓pkVarO7, ↓pkVarO8, ↓pkVarO9, ↓pkVarO10, ↓kSetN0, ↓kSetN1, ↓kSetN2, ↓kSetN3, ↓kSetN4, ↓kSetN5, ↓kSetN6, ↓kSetN7, ↓kSetN8, ↓kSetN9, ↓kSetN10, ↓kSetO_N0, ↓kSetO_N1, ↓kSetO_N2, ↓kSetO_N3, ↓kSetO_N4, ↓kSetO_N5, ↓kSetO_N6, ↓kSetO_N7, ↓kSetO_N8, ↓kSetO_N9, ↓kSetO_N10, ↓pgNameN0, ↓pgNameN1, ↓pgNameN2, ↓pgNameN3, ↓pgNameN4, ↓pgNameN5, ↓pgNameN6, ↓pgNameN7, ↓pgNameN8, ↓pgNameN9, ↓pgNameN10, ↓ixS0, ↓ixS1, ↓ixS2, ↓ixS3, ↓ixS4, ↓ixS5, ↓ixS6, ↓ixS7, ↓ixS8, ↓ixS9, ↓ixS10, ↓lenS0, ↓lenS1, ↓lenS2, ↓lenS3, ↓lenS4, ↓lenS5, ↓lenS6, ↓lenS7, ↓lenS8, ↓lenS9, ↓lenS10, ↓setS0, ↓setS1, ↓setS2, ↓setS3, ↓setS4, ↓setS5, ↓setS6, ↓setS7, ↓setS8, ↓setS9, ↓setS10, ↓conS0, ↓conS1, ↓conS2, ↓conS3, ↓conS4, ↓conS5, ↓conS6, ↓conS7, ↓conS8, ↓conS9, ↓conS10, ↓putS0, ↓putS1, ↓putS2, ↓putS3, ↓putS4, ↓putS5, ↓putS6, ↓putS7, ↓putS8, ↓putS9, ↓putS10]
        refine ⟨hP4, p, L, encS s, rfl, hL, hw4, small_S os3, fun L' hL' e => absurd (isLoop_iff.mpr ⟨L', hL', e.symm⟩) (by rw [hno]; decide), fun _ => ⟨true, e1, fun _ => ?_, fun h => by cases h⟩⟩
        try simp only [wg2, beq_self_eq_true, ↓pC, ↓pOp, ↓pUn, ↓pSl, ↓pPart, ↓pNil, ↓pCons, ↓pTup, ↓pLst, ↓pCallB, ↓pTest, ↓pNot, ↓pAnd, ↓pOr, ↓pAndV, ↓pOrV, ↓pNotV, ↓pIf, ↓pNext, ↓pSeq, ↓pBreak, ↓pCont, ↓pDrop, ↓pRet, ↓pRetN, ↓pIfS, ↓pgNil, ↓pgCons, ↓pgTup, ↓pAsg, ↓pRaise, ↓pCall, ↓pIter, ↓pFor, ↓pLc, ↓pYes, ↓pkOf, ↓pIxK, ↓pTabG, ↓pLenK, ↓pChain, ↓pStore, ↓pAppend, ↓pPop, ↓poLst, ↓poDct, ↓pNewW, ↓pRng1, ↓pRng2, ↓pTry, ↓pTryAs, ↓oEq, ↓oNe, ↓oLen, ↓oSum, ↓oAll, ↓oAny, ↓oIsi, start0, List.map_cons, List.map_nil, List.length_cons, List.length_nil, List.cons_append, List.nil_append, List.getElem?_cons_zero, List.getElem?_cons_succ, List.set_cons_zero, List.set_cons_succ, List.replicate, D.bl.injEq, D.int.injEq, D.str.injEq, D.tup.injEq, D.lst.injEq, exists_eq_left', exists_eq_left, Option.some.injEq, Bool.false_eq_true, if_true, if_false, true_and, and_true, false_and, and_false, isi_int, isi_bool, isi_str, isi_tuple, isi_list, isiT_int, isiT_bool, isiT_str, isiT_tuple, isiT_list, Bool.not_true, Bool.not_false, dat_non, dat_bl, dat_int, dat_str, dat_tup, dat_lst, isInt_non, isInt_bl, isInt_int, isInt_str, isInt_tup, isInt_lst, isBool_non, isBool_bl, isBool_int, isBool_str, isBool_tup, isBool_lst, isStr_non, isStr_bl, isStr_int, isStr_str, isStr_tup, isStr_lst, isTup_non, isTup_bl, isTup_int, isTup_str, isTup_tup, isTup_lst, isLst_non, isLst_bl, isLst_int, isLst_str, isLst_tup, isLst_lst, Nat.reduceAdd, Nat.zero_add, sz_0, sz_1, sz_2, sz_3, sz_4, sz_5, sz_6, sz_7, sz_8, sz_9, sz_10, sz_11, sz_12, List.any_cons, List.any_nil, eqD_tup, eqD_str, eqD_int, eqDs_cons, eqDs_nil, eqDs_cn, eqDs_nc, Bool.or_false, Bool.and_true, at0, at1, at2, at3, at4, good_int, good_bl, good_nil, good_nilL, good_non, eqDs_nil_r, eqDs_nil_l, List.isEmpty_nil, List.isEmpty_cons, Bool.and_false, Bool.or_true, Bool.false_or, Bool.true_or, Bool.false_and, Bool.true_and, encB, wipS_mk, List.foldr_cons, List.foldr_nil, con_updW, ↓ixC_ownD, ↓oIx_tup, ↓oIx_lst, ↓oIx_str, ↓lenC_ownL, ↓lenC_ownD, ↓setC_ownD, putC_adr, Own_lst_inj, Con_own_inj, updW_upd, Nat.reduceSub, Nat.sub_self, ↓itD_lst, ↓itD_tup, ↓oInt_i, ↓oCmp_i, ↓oAdd_i, ↓oAdd_s, ↓oAdd_t, ↓oAdd_l, ↓oNeg_i, ↓o1I_i, ↓o2I_i, ↓oSl_t, ↓oSl_l, ↓oList_t, ↓oList_l, ↓oTuple_t, ↓oTuple_l, ↓oIn_t, ↓oIn_l, ↓oIsN_n, ↓ixC_ownLi, ↓setC_ownLi, ixN20, ixN21, ex_int1, ex_int2, ↓pSet_eq, ↓ixK_tup, ↓ixK_lst, ↓ixK_str, ↓ixK_dct, ↓lenK_tup, ↓lenK_lst, ↓lenK_str, ↓pSetO_eq, ↓pPar_eq, ↓kPar_mk, ↓pGet2, ↓pFrzO_eq, ↓kFrz_lst, ↓kFrz_dct, ↓pPairs_nil, ↓pPairs_cons, ↓poDisp, ↓getC_val, isDc_val, ↓poCat, ↓catD_l, ↓pVarV0, ↓pVarV1, ↓pVarV2, ↓pVarV3, ↓pVarV4, ↓pVarV5, ↓pVarV6, ↓pVarV7, ↓pVarV8, ↓pVarV9, ↓pVarV10, ↓pVarL0, ↓pVarL1, ↓pVarL2, ↓pVarL3, ↓pVarL4, ↓pVarL5, ↓pVarL6, ↓pVarL7, ↓pVarL8, ↓pVarL9, ↓pVarL10, ↓pVarD0, ↓pVarD1, ↓pVarD2, ↓pVarD3, ↓pVarD4, ↓pVarD5, ↓pVarD6, ↓pVarD7, ↓pVarD8, ↓pVarD9, ↓pVarD10, ↓pkVarV0, ↓pkVarV1, ↓pkVarV2, ↓pkVarV3, ↓pkVarV4, ↓pkVarV5, ↓pkVarV6, ↓pkVarV7, ↓pkVarV8, ↓pkVarV9, ↓pkVarV10, ↓pkVarO0, ↓pkVarO1, ↓pkVarO2, ↓pkVarO3, ↓pkVarO4, ↓pkVarO5, ↓pkVarO6, ↓pkVarO7, ↓pkVarO8, ↓pkVarO9, ↓pkVarO10, ↓kSetN0, ↓kSetN1, ↓kSetN2, ↓kSetN3, ↓kSetN4, ↓kSetN5, ↓kSetN6, ↓kSetN7, ↓kSetN8, ↓kSetN9, ↓kSetN10, ↓kSetO_N0, ↓kSetO_N1, ↓kSetO_N2, ↓kSetO_N3, ↓kSetO_N4, ↓kSetO_N5, ↓kSetO_N6, ↓kSetO_N7, ↓kSetO_N8, ↓kSetO_N9, ↓kSetO_N10, ↓pgNameN0, ↓pgNameN1, ↓pgNameN2, ↓pgNameN3, ↓pgNameN4, ↓pgNameN5, ↓pgNameN6, ↓pgNameN7, ↓pgNameN8, ↓pgNameN9, ↓pgNameN10, ↓ixS0, ↓ixS1, ↓ixS2, ↓ixS3, ↓ixS4, ↓ixS5, ↓ixS6, ↓ixS7, ↓ixS8, ↓ixS9, ↓ixS10, ↓lenS0, ↓lenS1, ↓lenS2, ↓lenS3, ↓lenS4, ↓lenS5, ↓lenS6, ↓lenS7, ↓lenS8, ↓lenS9, ↓lenS10, ↓setS0, ↓setS1, ↓setS2, ↓setS3, ↓setS4, ↓setS5, ↓setS6, ↓setS7, ↓setS8, ↓setS9, ↓setS10, ↓conS0, ↓conS1, ↓conS2, ↓conS3, ↓conS4, ↓conS5, ↓conS6, ↓conS7, ↓conS8, ↓conS9, ↓conS10, ↓putS0, ↓putS1, ↓putS2, ↓putS3, ↓putS4, ↓putS5, ↓putS6, ↓putS7, ↓putS8, ↓putS9, ↓putS10]
        exact q L W4 hL hw4 hs4 ho4
  · walk_at "pls"
    refine ite2 (fun c5 => ?_) (fun c5 => ?_)
    · refine ⟨a, _, rfl, by omega, by omega, hs1, fun n1 W2 _ _ d2 => ⟨a, _, rfl, by omega, by omega, d2.src, fun n2 W3 _ _ d3 => ?_⟩⟩
      walk_at "pls"
      refine ⟨a, _, _, rfl, rfl, by simp, by simp, d3.src, fun v W4 hv d4 => ?_⟩
      have hs4 := d4.src
      have hw4 : Val W4 C_Loop p L := (dr_at d4 pa).trans ((dr_at d3 pa).trans ((dr_at d2 pa).trans hw1))
      have hP4 : W4 p_code = _ := (dr_at d4 ca).trans ((dr_at d3 ca).trans ((dr_at d2 ca).trans hP1))
      have ho4 : ∀ b, b ≠ a → b ≠ p → W4 b = Wo b := fun b h h2 => (dr_at d4 h).trans ((dr_at d3 h).trans ((dr_at d2 h).trans (ho1 b h h2)))
      have hv : (∃ n, v = .int n) ∨ v = .non ∨ v = .bl true := by
        simp only [List.mem_cons, List.not_mem_nil, or_false] at hv
        rcases hv with rfl | rfl | rfl | rfl | rfl <;> simp
      try simp only [↓pWord, ↓pC, ↓pOp, ↓pUn, ↓pSl, ↓pPart, ↓pNil, ↓pCons, ↓pTup, ↓pLst, ↓pCallB, ↓pTest, ↓pNot, ↓pAnd, ↓pOr, ↓pAndV, ↓pOrV, ↓pNotV, ↓pIf, ↓pNext, ↓pSeq, ↓pBreak, ↓pCont, ↓pDrop, ↓pRet, ↓pRetN, ↓pIfS, ↓pgNil, ↓pgCons, ↓pgTup, ↓pAsg, ↓pRaise, ↓pCall, ↓pIter, ↓pFor, ↓pLc, ↓pYes, ↓pkOf, ↓pIxK, ↓pTabG, ↓pLenK, ↓pChain, ↓pStore, ↓pAppend, ↓pPop, ↓poLst, ↓poDct, ↓pNewW, ↓pRng1, ↓pRng2, ↓pTry, ↓pTryAs, ↓oEq, ↓oNe, ↓oLen, ↓oSum, ↓oAll, ↓oAny, ↓oIsi, start0, List.map_cons, List.map_nil, List.length_cons, List.length_nil, List.cons_append, List.nil_append, List.getElem?_cons_zero, List.getElem?_cons_succ, List.set_cons_zero, List.set_cons_succ, List.replicate, D.bl.injEq, D.int.injEq, D.str.injEq, D.tup.injEq, D.lst.injEq, exists_eq_left', exists_eq_left, Option.some.injEq, Bool.false_eq_true, if_true, if_false, true_and, and_true, false_and, and_false, isi_int, isi_bool, isi_str, isi_tuple, isi_list, isiT_int, isiT_bool, isiT_str, isiT_tuple, isiT_list, Bool.not_true, Bool.not_false, dat_non, dat_bl, dat_int, dat_str, dat_tup, dat_lst, isInt_non, isInt_bl, isInt_int, isInt_str, isInt_tup, isInt_lst, isBool_non, isBool_bl, isBool_int, isBool_str, isBool_tup, isBool_lst, isStr_non, isStr_bl, isStr_int, isStr_str, isStr_tup, isStr_lst, isTup_non, isTup_bl, isTup_int, isTup_str, isTup_tup, isTup_lst, isLst_non, isLst_bl, isLst_int, isLst_str, isLst_tup, isLst_lst, Nat.reduceAdd, Nat.zero_add, sz_0, sz_1, sz_2, sz_3, sz_4, sz_5, sz_6, sz_7, sz_8, sz_9, sz_10, sz_11, sz_12, List.any_cons, List.any_nil, eqD_tup, eqD_str, eqD_int, eqDs_cons, eqDs_nil, eqDs_cn, eqDs_nc, Bool.or_false, Bool.and_true, at0, at1, at2, at3, at4, good_int, good_bl, good_nil, good_nilL, good_non, eqDs_nil_r, eqDs_nil_l, List.isEmpty_nil, List.isEmpty_cons, Bool.and_false, Bool.or_true, Bool.false_or, Bool.true_or, Bool.false_and, Bool.true_and, encB, wipS_mk, List.foldr_cons, List.foldr_nil, con_updW, ↓ixC_ownD, ↓oIx_tup, ↓oIx_lst, ↓oIx_str, ↓lenC_ownL, ↓lenC_ownD, ↓setC_ownD, putC_adr, Own_lst_inj, Con_own_inj, updW_upd, Nat.reduceSub, Nat.sub_self, ↓itD_lst, ↓itD_tup, ↓oInt_i, ↓oCmp_i, ↓oAdd_i, ↓oAdd_s, ↓oAdd_t, ↓oAdd_l, ↓oNeg_i, ↓o1I_i, ↓o2I_i, ↓oSl_t, ↓oSl_l, ↓oList_t, ↓oList_l, ↓oTuple_t, ↓oTuple_l, ↓oIn_t, ↓oIn_l, ↓oIsN_n, ↓ixC_ownLi, ↓setC_ownLi, ixN20, ixN21, ex_int1, ex_int2, ↓pSet_eq, ↓ixK_tup, ↓ixK_lst, ↓ixK_str, ↓ixK_dct, ↓lenK_tup, ↓lenK_lst, ↓lenK_str, ↓pSetO_eq, ↓pPar_eq, ↓kPar_mk, ↓pGet2, ↓pFrzO_eq, ↓kFrz_lst, ↓kFrz_dct, ↓pPairs_nil, ↓pPairs_cons, ↓poDisp, ↓getC_val, isDc_val, ↓poCat, ↓catD_l, ↓pVarV0, ↓pVarV1, ↓pVarV2, ↓pVarV3, ↓pVarV4, ↓pVarV5, ↓pVarV6, ↓pVarV7, ↓pVarV8, ↓pVarV9, ↓pVarV10, ↓pVarL0, ↓pVarL1, ↓pVarL2, ↓pVarL3, ↓pVarL4, ↓pVarL5, ↓pVarL6, ↓pVarL7, ↓pVarL8, ↓pVarL9, ↓pVarL10, ↓pVarD0, ↓pVarD1, ↓pVarD2, ↓pVarD3, ↓pVarD4, ↓pVarD5, ↓pVarD6, ↓pVarD7, ↓pVarD8, ↓pVarD9, ↓pVarD10, ↓pkVarV0, ↓pkVarV1, ↓pkVarV2, ↓pkVarV3, ↓pkVarV4, ↓pkVarV5, ↓pkVarV6, ↓pkVarV7, ↓pkVarV8, ↓pkVarV9, ↓pkVarV10, ↓pkVarO0, ↓pkVarO1, ↓pkVarO2, ↓pkVarO3, ↓pkVarO4, ↓pkVarO5, ↓pkVarO6, ↓pkVarO7, ↓pkVarO8, ↓pkVarO9, ↓pkVarO10, ↓kSetN0, ↓kSetN1, ↓kSetN2, ↓kSetN3, ↓kSetN4, ↓kSetN5, ↓kSetN6, ↓kSetN7, ↓kSetN8, ↓kSetN9, ↓kSetN10, ↓kSetO_N0, ↓kSetO_N1, ↓kSetO_N2, ↓kSetO_N3, ↓kSetO_N4, ↓kSetO_N5, ↓kSetO_N6, ↓kSetO_N7, ↓kSetO_N8, ↓kSetO_N9, ↓kSetO_N10, ↓pgNameN0, ↓pgNameN1, ↓pgNameN2, ↓pgNameN3, ↓pgNameN4, ↓pgNameN5, ↓pgNameN6, ↓pgNameN7, ↓pgNameN8, ↓pgNameN9, ↓pgNameN10, ↓ixS0, ↓ixS1, ↓ixS2, ↓ixS3, ↓ixS4, ↓ixS5, ↓ixS6, ↓ixS7, ↓ixS8, ↓ixS9, ↓ixS10, ↓lenS0, ↓lenS1, ↓lenS2, ↓lenS3, ↓lenS4, ↓lenS5, ↓lenS6, ↓lenS7, ↓lenS8, ↓lenS9, ↓lenS10, ↓setS0, ↓setS1, ↓setS2, ↓setS3, ↓setS4, ↓setS5, ↓setS6, ↓setS7, ↓setS8, ↓setS9, ↓setS10, ↓conS0, ↓conS1, ↓conS2, ↓conS3, ↓conS4, ↓conS5, ↓conS6, ↓conS7, ↓conS8, ↓conS9, ↓conS10, ↓putS0, ↓putS1, ↓putS2, ↓putS3, ↓putS4, ↓putS5, ↓putS6, ↓putS7, ↓putS8, ↓putS9, ↓putS10]
      rcases hv with ⟨n, rfl⟩ | rfl | rfl
      · by_cases hin : 0 ≤ n ∧ n ≤ ((listedB L.body).length : Int) - 1
        · refine ⟨hP4, p, L, _, rfl, hL, hw4, rfl, fun h => absurd (isNum_in hin) (by rw [h]; decide), fun k hk hi => ?_⟩
          cases hk
          walk_at "pls"
          rw [if_pos (decide_eq_true hin.1), if_pos (decide_eq_true (by omega))]
          refine ⟨wg1, wg1, ?_⟩
          rw [if_pos (beq_self_eq_true _)]
          exact ⟨L, n, rfl, hL, q (less L n) _ (less_ok hL) updW_val (src_upd hs4 (Ne.symm pa)) (fun b h h2 => (updW_ne h2).trans (ho4 b h h2))⟩
        · refine ⟨hP4, p, L, _, rfl, hL, hw4, rfl, fun h => ⟨false, e2, (fun h => nomatch h), fun _ => ⟨true, e3, fun _ => ?_, fun h => by cases h⟩⟩, fun k hk hi => ?_⟩
          · try simp only [wg3, beq_self_eq_true, ↓pC, ↓pOp, ↓pUn, ↓pSl, ↓pPart, ↓pNil, ↓pCons, ↓pTup, ↓pLst, ↓pCallB, ↓pTest, ↓pNot, ↓pAnd, ↓pOr, ↓pAndV, ↓pOrV, ↓pNotV, ↓pIf, ↓pNext, ↓pSeq, ↓pBreak, ↓pCont, ↓pDrop, ↓pRet, ↓pRetN, ↓pIfS, ↓pgNil, ↓pgCons, ↓pgTup, ↓pAsg, ↓pRaise, ↓pCall, ↓pIter, ↓pFor, ↓pLc, ↓pYes, ↓pkOf, ↓pIxK, ↓pTabG, ↓pLenK, ↓pChain, ↓pStore, ↓pAppend, ↓pPop, ↓poLst, ↓poDct, ↓pNewW, ↓pRng1, ↓pRng2, ↓pTry, ↓pTryAs, ↓oEq, ↓oNe, ↓oLen, ↓oSum, ↓oAll, ↓oAny, ↓oIsi, start0, List.map_cons, List.map_nil, List.length_cons, List.length_nil, List.cons_append, List.nil_append, List.getElem?_cons_zero, List.getElem?_cons_succ, List.set_cons_zero, List.set_cons_succ, List.replicate, D.bl.injEq, D.int.injEq, D.str.injEq, D.tup.injEq, D.lst.injEq, exists_eq_left', exists_eq_left, Option.some.injEq, Bool.false_eq_true, if_true, if_false, true_and, and_true, false_and, and_false, isi_int, isi_bool, isi_str, isi_tuple, isi_list, isiT_int, isiT_bool, isiT_str, isiT_tuple, isiT_list, Bool.not_true, Bool.not_false, dat_non, dat_bl, dat_int, dat_str, dat_tup, dat_lst, isInt_non, isInt_bl, isInt_int, isInt_str, isInt_tup, isInt_lst, isBool_non, isBool_bl, isBool_int, isBool_str, isBool_tup, isBool_lst, isStr_non, isStr_bl, isStr_int, isStr_str, isStr_tup, isStr_lst, isTup_non, isTup_bl, isTup_int, isTup_str, isTup_tup, isTup_lst, isLst_non, isLst_bl, isLst_int, isLst_str, isLst_tup, isLst_lst, Nat.reduceAdd, Nat.zero_add, sz_0, sz_1, sz_2, sz_3, sz_4, sz_5, sz_6, sz_7, sz_8, sz_9, sz_10, sz_11, sz_12, List.any_cons, List.any_nil, eqD_tup, eqD_str, eqD_int, eqDs_cons, eqDs_nil, eqDs_cn, eqDs_nc, Bool.or_false, Bool.and_true, at0, at1, at2, at3, at4, good_int, good_bl, good_nil, good_nilL, good_non, eqDs_nil_r, eqDs_nil_l, List.isEmpty_nil, List.isEmpty_cons, Bool.and_false, Bool.or_true, Bool.false_or, Bool.true_or, Bool.false_and, Bool.true_and, encB, wipS_mk, List.foldr_cons, List.foldr_nil, con_updW, ↓ixC_ownD, ↓oIx_tup, ↓oIx_lst, ↓oIx_str, ↓lenC_ownL, ↓lenC_ownD, ↓setC_ownD, putC_adr, Own_lst_inj, Con_own_inj, updW_upd, Nat.reduceSub, Nat.sub_self, ↓itD_lst, ↓itD_tup, ↓oInt_i, ↓oCmp_i, ↓oAdd_i, ↓oAdd_s, ↓oAdd_t, ↓oAdd_l, ↓oNeg_i, ↓o1I_i, ↓o2I_i, ↓oSl_t, ↓oSl_l, ↓oList_t, ↓oList_l, ↓oTuple_t, ↓oTuple_l, ↓oIn_t, ↓oIn_l, ↓oIsN_n, ↓ixC_ownLi, ↓setC_ownLi, ixN20, ixN21, ex_int1, ex_int2, ↓pSet_eq, ↓ixK_tup, ↓ixK_lst, ↓ixK_str, ↓ixK_dct, ↓lenK_tup, ↓lenK_lst, ↓lenK_str, ↓pSetO_eq, ↓pPar_eq, ↓kPar_mk, ↓pGet2, ↓pFrzO_eq, ↓kFrz_lst, ↓kFrz_dct, ↓pPairs_nil, ↓pPairs_cons, ↓poDisp, ↓getC_val, isDc_val, ↓poCat, ↓catD_l, ↓pVarV0, ↓pVarV1, ↓pVarV2, ↓pVarV3, ↓pVarV4, ↓pVarV5, ↓pVarV6, ↓pVarV7, ↓pVarV8, ↓pVarV9, ↓pVarV10, ↓pVarL0, ↓pVarL1, ↓pVarL2, ↓pVarL3, ↓pVarL4, ↓pVarL5, ↓pVarL6, ↓pVarL7, ↓pVarL8, ↓pVarL9, ↓pVarL10, ↓pVarD0, ↓pVarD1, ↓pVarD2, ↓pVarD3, ↓pVarD4, ↓pVarD5, ↓pVarD6, ↓pVarD7, ↓pVarD8, ↓pVarD9, ↓pVarD10, ↓pkVarV0, ↓pkVarV1, ↓pkVarV2, ↓pkVarV3, ↓pkVarV4, ↓pkVarV5, ↓pkVarV6, ↓pkVarV7, ↓pkVarV8, ↓pkVarV9, ↓pkVarV10, ↓pkVarO0, ↓pkVarO1, ↓pkVarO2, ↓pkVarO3, ↓pkVarO4, ↓pkVarO5, ↓pkVarO6, ↓pkVarO7, ↓pkVarO8, ↓pkVarO9, ↓pkVarO10, ↓kSetN0, ↓kSetN1, ↓kSetN2, ↓kSetN3, ↓kSetN4, ↓kSetN5, ↓kSetN6, ↓kSetN7, ↓kSetN8, ↓kSetN9, ↓kSetN10, ↓kSetO_N0, ↓kSetO_N1, ↓kSetO_N2, ↓kSetO_N3, ↓kSetO_N4, ↓kSetO_N5, ↓kSetO_N6, ↓kSetO_N7, ↓kSetO_N8, ↓kSetO_N9, ↓kSetO_N10, ↓pgNameN0, ↓pgNameN1, ↓pgNameN2, ↓pgNameN3, ↓pgNameN4, ↓pgNameN5, ↓pgNameN6, ↓pgNameN7, ↓pgNameN8, ↓pgNameN9, ↓pgNameN10, ↓ixS0, ↓ixS1, ↓ixS2, ↓ixS3, ↓ixS4, ↓ixS5, ↓ixS6, ↓ixS7, ↓ixS8, ↓ixS9, ↓ixS10, ↓lenS0, ↓lenS1, ↓lenS2, ↓lenS3, ↓lenS4, ↓lenS5, ↓lenS6, ↓lenS7, ↓lenS8, ↓lenS9, ↓lenS10, ↓setS0, ↓setS1, ↓setS2, ↓setS3, ↓setS4, ↓setS5, ↓setS6, ↓setS7, ↓setS8, ↓setS9, ↓setS10, ↓conS0, ↓conS1, ↓conS2, ↓conS3, ↓conS4, ↓conS5, ↓conS6, ↓conS7, ↓conS8, ↓conS9, ↓conS10, ↓putS0, ↓putS1, ↓putS2, ↓putS3, ↓putS4, ↓putS5, ↓putS6, ↓putS7, ↓putS8, ↓putS9, ↓putS10]
            refine ite2 (fun c => ?_) (fun _ => q L W4 hL hw4 hs4 ho4)
            refine ite2 (fun c' => absurd ⟨of_decide_eq_true c, by have := of_decide_eq_true c'; omega⟩ hin) (fun _ => q L W4 hL hw4 hs4 ho4)
          · cases hk
            simp only [inR, Bool.and_eq_true, decide_eq_true_eq] at hi
            exact absurd hi hin
      · refine ⟨hP4, p, L, _, rfl, hL, hw4, rfl, fun h => ⟨false, e2, (fun h => nomatch h), fun _ => ⟨true, e3, fun _ => ?_, fun h => by cases h⟩⟩, fun k hk hi => by cases hk⟩
        try simp only [wg3, beq_self_eq_true, ↓pC, ↓pOp, ↓pUn, ↓pSl, ↓pPart, ↓pNil, ↓pCons, ↓pTup, ↓pLst, ↓pCallB, ↓pTest, ↓pNot, ↓pAnd, ↓pOr, ↓pAndV, ↓pOrV, ↓pNotV, ↓pIf, ↓pNext, ↓pSeq, ↓pBreak, ↓pCont, ↓pDrop, ↓pRet, ↓pRetN, ↓pIfS, ↓pgNil, ↓pgCons, ↓pgTup, ↓pAsg, ↓pRaise, ↓pCall, ↓pIter, ↓pFor, ↓pLc, ↓pYes, ↓pkOf, ↓pIxK, ↓pTabG, ↓pLenK, ↓pChain, ↓pStore, ↓pAppend, ↓pPop, ↓poLst, ↓poDct, ↓pNewW, ↓pRng1, ↓pRng2, ↓pTry, ↓pTryAs, ↓oEq, ↓oNe, ↓oLen, ↓oSum, ↓oAll, ↓oAny, ↓oIsi, start0, List.map_cons, List.map_nil, List.length_cons, List.length_nil, List.cons_append, List.nil_append, List.getElem?_cons_zero, List.getElem?_cons_succ, List.set_cons_zero, List.set_cons_succ, List.replicate, D.bl.injEq, D.int.injEq, D.str.injEq, D.tup.injEq, D.lst.injEq, exists_eq_left', exists_eq_left, Option.some.injEq, Bool.false_eq_true, if_true, if_false, true_and, and_true, false_and, and_false, isi_int, isi_bool, isi_str, isi_tuple, isi_list, isiT_int, isiT_bool, isiT_str, isiT_tuple, isiT_list, Bool.not_true, Bool.not_false, dat_non, dat_bl, dat_int, dat_str, dat_tup, dat_lst, isInt_non, isInt_bl, isInt_int, isInt_str, isInt_tup, isInt_lst, isBool_non, isBool_bl, isBool_int, isBool_str, isBool_tup, isBool_lst, isStr_non, isStr_bl, isStr_int, isStr_str, isStr_tup, isStr_lst, isTup_non, isTup_bl, isTup_int, isTup_str, isTup_tup, isTup_lst, isLst_non, isLst_bl, isLst_int, isLst_str, isLst_tup, isLst_lst, Nat.reduceAdd, Nat.zero_add, sz_0, sz_1, sz_2, sz_3, sz_4, sz_5, sz_6, sz_7, sz_8, sz_9, sz_10, sz_11, sz_12, List.any_cons, List.any_nil, eqD_tup, eqD_str, eqD_int, eqDs_cons, eqDs_nil, eqDs_cn, eqDs_nc, Bool.or_false, Bool.and_true, at0, at1, at2, at3, at4, good_int, good_bl, good_nil, good_nilL, good_non, eqDs_nil_r, eqDs_nil_l, List.isEmpty_nil, List.isEmpty_cons, Bool.and_false, Bool.or_true, Bool.false_or, Bool.true_or, Bool.false_and, Bool.true_and, encB, wipS_mk, List.foldr_cons, List.foldr_nil, con_updW, ↓ixC_ownD, ↓oIx_tup, ↓oIx_lst, ↓oIx_str, ↓lenC_ownL, ↓lenC_ownD, ↓setC_ownD, putC_adr, Own_lst_inj, Con_own_inj, updW_upd, Nat.reduceSub, Nat.sub_self, ↓itD_lst, ↓itD_tup, ↓oInt_i, ↓oCmp_i, ↓oAdd_i, ↓oAdd_s, ↓oAdd_t, ↓oAdd_l, ↓oNeg_i, ↓o1I_i, ↓o2I_i, ↓oSl_t, ↓oSl_l, ↓oList_t, ↓oList_l, ↓oTuple_t, ↓oTuple_l, ↓oIn_t, ↓oIn_l, ↓oIsN_n, ↓ixC_ownLi, ↓setC_ownLi, ixN20, ixN21, ex_int1, ex_int2, ↓pSet_eq, ↓ixK_tup, ↓ixK_lst, ↓ixK_str, ↓ixK_dct, ↓lenK_tup, ↓lenK_lst, ↓lenK_str, ↓pSetO_eq, ↓pPar_eq, ↓kPar_mk, ↓pGet2, ↓pFrzO_eq, ↓kFrz_lst, ↓kFrz_dct, ↓pPairs_nil, ↓pPairs_cons, ↓poDisp, ↓getC_val, isDc_val, ↓poCat, ↓catD_l, ↓pVarV0, ↓pVarV1, ↓pVarV2, ↓pVarV3, ↓pVarV4, ↓pVarV5, ↓pVarV6, ↓pVarV7, ↓pVarV8, ↓pVarV9, ↓pVarV10, ↓pVarL0, ↓pVarL1, ↓pVarL2, ↓pVarL3, ↓pVarL4, ↓pVarL5, ↓pVarL6, ↓pVarL7, ↓pVarL8, ↓pVarL9, ↓pVarL10, ↓pVarD0, ↓pVarD1, ↓pVarD2, ↓pVarD3, ↓pVarD4, ↓pVarD5, ↓pVarD6, ↓pVarD7, ↓pVarD8, ↓pVarD9, ↓pVarD10, ↓pkVarV0, ↓pkVarV1, ↓pkVarV2, ↓pkVarV3, ↓pkVarV4, ↓pkVarV5, ↓pkVarV6, ↓pkVarV7, ↓pkVarV8, ↓pkVarV9, ↓pkVarV10, ↓pkVarO0, ↓pkVarO1, ↓pkVarO2, ↓pkVarO3, ↓pkVarO4, ↓pkVarO5, ↓pkVarO6, ↓pkVarO7, ↓pkVarO8, ↓pkVarO9, ↓pkVarO10, ↓kSetN0, ↓kSetN1, ↓kSetN2, ↓kSetN3, ↓kSetN4, ↓kSetN5, ↓kSetN6, ↓kSetN7, ↓kSetN8, ↓kSetN9, ↓kSetN10, ↓kSetO_N0, ↓kSetO_N1, ↓kSetO_N2, ↓kSetO_N3, ↓kSetO_N4, ↓kSetO_N5, ↓kSetO_N6, ↓kSetO_N7, ↓kSetO_N8, ↓kSetO_N9, ↓kSetO_N10, ↓pgNameN0, ↓pgNameN1, ↓pgNameN2, ↓pgNameN3, ↓pgNameN4, ↓pgNameN5, ↓pgNameN6, ↓pgNameN7, ↓pgNameN8, ↓pgNameN9, ↓pgNameN10, ↓ixS0, ↓ixS1, ↓ixS2, ↓ixS3, ↓ixS4, ↓ixS5, ↓ixS6, ↓ixS7, ↓ixS8, ↓ixS9, ↓ixS10, ↓lenS0, ↓lenS1, ↓lenS2, ↓lenS3, ↓lenS4, ↓lenS5, ↓lenS6, ↓lenS7, ↓lenS8, ↓lenS9, ↓lenS10, ↓setS0, ↓setS1, ↓setS2, ↓setS3, ↓setS4, ↓setS5, ↓setS6, ↓setS7, ↓setS8, ↓setS9, ↓setS10, ↓conS0, ↓conS1, ↓conS2, ↓conS3, ↓conS4, ↓conS5, ↓conS6, ↓conS7, ↓conS8, ↓conS9, ↓conS10, ↓putS0, ↓putS1, ↓putS2, ↓putS3, ↓putS4, ↓putS5, ↓putS6, ↓putS7, ↓putS8, ↓putS9, ↓putS10]
        exact q L W4 hL hw4 hs4 ho4
      · refine ⟨hP4, p, L, _, rfl, hL, hw4, rfl, fun h => ⟨false, e2, (fun h => nomatch h), fun _ => ⟨true, e3, fun _ => ?_, fun h => by cases h⟩⟩, fun k hk hi => by cases hk⟩
        try simp only [wg3, beq_self_eq_true, ↓pC, ↓pOp, ↓pUn, ↓pSl, ↓pPart, ↓pNil, ↓pCons, ↓pTup, ↓pLst, ↓pCallB, ↓pTest, ↓pNot, ↓pAnd, ↓pOr, ↓pAndV, ↓pOrV, ↓pNotV, ↓pIf, ↓pNext, ↓pSeq, ↓pBreak, ↓pCont, ↓pDrop, ↓pRet, ↓pRetN, ↓pIfS, ↓pgNil, ↓pgCons, ↓pgTup, ↓pAsg, ↓pRaise, ↓pCall, ↓pIter, ↓pFor, ↓pLc, ↓pYes, ↓pkOf, ↓pIxK, ↓pTabG, ↓pLenK, ↓pChain, ↓pStore, ↓pAppend, ↓pPop, ↓poLst, ↓poDct, ↓pNewW, ↓pRng1, ↓pRng2, ↓pTry, ↓pTryAs, ↓oEq, ↓oNe, ↓oLen, ↓oSum, ↓oAll, ↓oAny, ↓oIsi, start0, List.map_cons, List.map_nil, List.length_cons, List.length_nil, List.cons_append, List.nil_append, List.getElem?_cons_zero, List.getElem?_cons_succ, List.set_cons_zero, List.set_cons_succ, List.replicate, D.bl.injEq, D.int.injEq, D.str.injEq, D.tup.injEq, D.lst.injEq, exists_eq_left', exists_eq_left, Option.some.injEq, Bool.false_eq_true, if_true, if_false, true_and, and_true, false_and, and_false, isi_int, isi_bool, isi_str, isi_tuple, isi_list, isiT_int, isiT_bool, isiT_str, isiT_tuple, isiT_list, Bool.not_true, Bool.not_false, dat_non, dat_bl, dat_int, dat_str, dat_tup, dat_lst, isInt_non, isInt_bl, isInt_int, isInt_str, isInt_tup, isInt_lst, isBool_non, isBool_bl, isBool_int, isBool_str, isBool_tup, isBool_lst, isStr_non, isStr_bl, isStr_int, isStr_str, isStr_tup, isStr_lst, isTup_non, isTup_bl, isTup_int, isTup_str, isTup_tup, isTup_lst, isLst_non, isLst_bl, isLst_int, isLst_str, isLst_tup, isLst_lst, Nat.reduceAdd, Nat.zero_add, sz_0, sz_1, sz_2, sz_3, sz_4, sz_5, sz_6, sz_7, sz_8, sz_9, sz_10, sz_11, sz_12, List.any_cons, List.any_nil, eqD_tup, eqD_str, eqD_int, eqDs_cons, eqDs_nil, eqDs_cn, eqDs_nc, Bool.or_false, Bool.and_true, at0, at1, at2, at3, at4, good_int, good_bl, good_nil, good_nilL, good_non, eqDs_nil_r, eqDs_nil_l, List.isEmpty_nil, List.isEmpty_cons, Bool.and_false, Bool.or_true, Bool.false_or, Bool.true_or, Bool.false_and, Bool.true_and, encB, wipS_mk, List.foldr_cons, List.foldr_nil, con_updW, ↓ixC_ownD, ↓oIx_tup, ↓oIx_lst, ↓oIx_str, ↓lenC_ownL, ↓lenC_ownD, ↓setC_ownD, putC_adr, Own_lst_inj, Con_own_inj, updW_upd, Nat.reduceSub, Nat.sub_self, ↓itD_lst, ↓itD_tup, ↓oInt_i, ↓oCmp_i, ↓oAdd_i, ↓oAdd_s, ↓oAdd_t, ↓oAdd_l, ↓oNeg_i, ↓o1I_i, ↓o2I_i, ↓oSl_t, ↓oSl_l, ↓oList_t, ↓oList_l, ↓oTuple_t, ↓oTuple_l, ↓oIn_t, ↓oIn_l, ↓oIsN_n, ↓ixC_ownLi, ↓setC_ownLi, ixN20, ixN21, ex_int1, ex_int2, ↓pSet_eq, ↓ixK_tup, ↓ixK_lst, ↓ixK_str, ↓ixK_dct, ↓lenK_tup, ↓lenK_lst, ↓lenK_str, ↓pSetO_eq, ↓pPar_eq, ↓kPar_mk, ↓pGet2, ↓pFrzO_eq, ↓kFrz_lst, ↓kFrz_dct, ↓pPairs_nil, ↓pPairs_cons, ↓poDisp, ↓getC_val, isDc_val, ↓poCat, ↓catD_l, ↓pVarV0, ↓pVarV1, ↓pVarV2, ↓pVarV3, ↓pVarV4, ↓pVarV5, ↓pVarV6, ↓pVarV7, ↓pVarV8, ↓pVarV9, ↓pVarV10, ↓pVarL0, ↓pVarL1, ↓pVarL2, ↓pVarL3, ↓pVarL4, ↓pVarL5, ↓pVarL6, ↓pVarL7, ↓pVarL8, ↓pVarL9, ↓pVarL10, ↓pVarD0, ↓pVarD1, ↓pVarD2, ↓pVarD3, ↓pVarD4, ↓pVarD5, ↓pVarD6, ↓pVarD7, ↓pVarD8, ↓pVarD9, ↓pVarD10, ↓pkVarV0, ↓pkVarV1, ↓pkVarV2, ↓pkVarV3, ↓pkVarV4, ↓pkVarV5, ↓pkVarV6, ↓pkVarV7, ↓pkVarV8, ↓pkVarV9, ↓pkVarV10, ↓pkVarO0, ↓pkVarO1, ↓pkVarO2, ↓pkVarO3, ↓pkVarO4, ↓pkVarO5, ↓pkVarO6, ↓pkVarO7, ↓pkVarO8, ↓pkVarO9, ↓pkVarO10, ↓kSetN0, ↓kSetN1, ↓kSetN2, ↓kSetN3, ↓kSetN4, ↓kSetN5, ↓kSetN6, ↓kSetN7, ↓kSetN8, ↓kSetN9, ↓kSetN10, ↓kSetO_N0, ↓kSetO_N1, ↓kSetO_N2, ↓kSetO_N3, ↓kSetO_N4, ↓kSetO_N5, ↓kSetO_N6, ↓kSetO_N7, ↓kSetO_N8, ↓kSetO_N9, ↓kSetO_N10, ↓pgNameN0, ↓pgNameN1, ↓pgNameN2, ↓pgNameN3, ↓pgNameN4, ↓pgNameN5, ↓pgNameN6, ↓pgNameN7, ↓pgNameN8, ↓pgNameN9, ↓pgNameN10, ↓ixS0, ↓ixS1, ↓ixS2, ↓ixS3, ↓ixS4, ↓ixS5, ↓ixS6, ↓ixS7, ↓ixS8, ↓ixS9, ↓ixS10, ↓lenS0, ↓lenS1, ↓lenS2, ↓lenS3, ↓lenS4, ↓lenS5, ↓lenS6, ↓lenS7, ↓lenS8, ↓lenS9, ↓lenS10, ↓setS0, ↓setS1, ↓setS2, ↓setS3, ↓setS4, ↓setS5, ↓setS6, ↓setS7, ↓setS8, ↓setS9, ↓setS10, ↓conS0, ↓conS1, ↓conS2, ↓conS3, ↓conS4, ↓conS5, ↓conS6, ↓conS7, ↓conS8, ↓conS9, ↓conS10, ↓putS0, ↓putS1, ↓putS2, ↓putS3, ↓putS4, ↓putS5, ↓putS6, ↓putS7, ↓putS8, ↓putS9, ↓putS10]
        exact q L W4 hL hw4 hs4 ho4
    · refine ⟨a, _, rfl, by omega, by omega, hs1, fun n1 W2 _ _ d2 => ⟨a, _, rfl, by omega, by omega, d2.src, fun n2 W3 _ _ d3 => ?_⟩⟩
      refine ⟨a, _, _, rfl, rfl, by simp, by simp, d3.src, fun v W4 hv d4 => ?_⟩
      have hs4 := d4.src
      have hw4 : Val W4 C_Loop p L := (dr_at d4 pa).trans ((dr_at d3 pa).trans ((dr_at d2 pa).trans hw1))
      have hP4 : W4 p_code = _ := (dr_at d4 ca).trans ((dr_at d3 ca).trans ((dr_at d2 ca).trans hP1))
      have ho4 : ∀ b, b ≠ a → b ≠ p → W4 b = Wo b := fun b h h2 => (dr_at d4 h).trans ((dr_at d3 h).trans ((dr_at d2 h).trans (ho1 b h h2)))
      have hv : (∃ n, v = .int n) ∨ v = .non ∨ v = .bl true := by
        simp only [List.mem_cons, List.not_mem_nil, or_false] at hv
        rcases hv with rfl | rfl | rfl | rfl | rfl | rfl <;> simp
      try simp only [↓pWord, ↓pC, ↓pOp, ↓pUn, ↓pSl, ↓pPart, ↓pNil, ↓pCons, ↓pTup, ↓pLst, ↓pCallB, ↓pTest, ↓pNot, ↓pAnd, ↓pOr, ↓pAndV, ↓pOrV, ↓pNotV, ↓pIf, ↓pNext, ↓pSeq, ↓pBreak, ↓pCont, ↓pDrop, ↓pRet, ↓pRetN, ↓pIfS, ↓pgNil, ↓pgCons, ↓pgTup, ↓pAsg, ↓pRaise, ↓pCall, ↓pIter, ↓pFor, ↓pLc, ↓pYes, ↓pkOf, ↓pIxK, ↓pTabG, ↓pLenK, ↓pChain, ↓pStore, ↓pAppend, ↓pPop, ↓poLst, ↓poDct, ↓pNewW, ↓pRng1, ↓pRng2, ↓pTry, ↓pTryAs, ↓oEq, ↓oNe, ↓oLen, ↓oSum, ↓oAll, ↓oAny, ↓oIsi, start0, List.map_cons, List.map_nil, List.length_cons, List.length_nil, List.cons_append, List.nil_append, List.getElem?_cons_zero, List.getElem?_cons_succ, List.set_cons_zero, List.set_cons_succ, List.replicate, D.bl.injEq, D.int.injEq, D.str.injEq, D.tup.injEq, D.lst.injEq, exists_eq_left', exists_eq_left, Option.some.injEq, Bool.false_eq_true, if_true, if_false, true_and, and_true, false_and, and_false, isi_int, isi_bool, isi_str, isi_tuple, isi_list, isiT_int, isiT_bool, isiT_str, isiT_tuple, isiT_list, Bool.not_true, Bool.not_false, dat_non, dat_bl, dat_int, dat_str, dat_tup, dat_lst, isInt_non, isInt_bl, isInt_int, isInt_str, isInt_tup, isInt_lst, isBool_non, isBool_bl, isBool_int, isBool_str, isBool_tup, isBool_lst, isStr_non, isStr_bl, isStr_int, isStr_str, isStr_tup, isStr_lst, isTup_non, isTup_bl, isTup_int, isTup_str, isTup_tup, isTup_lst, isLst_non, isLst_bl, isLst_int, isLst_str, isLst_tup, isLst_lst, Nat.reduceAdd, Nat.zero_add, sz_0, sz_1, sz_2, sz_3, sz_4, sz_5, sz_6, sz_7, sz_8, sz_9, sz_10, sz_11, sz_12, List.any_cons, List.any_nil, eqD_tup, eqD_str, eqD_int, eqDs_cons, eqDs_nil, eqDs_cn, eqDs_nc, Bool.or_false, Bool.and_true, at0, at1, at2, at3, at4, good_int, good_bl, good_nil, good_nilL, good_non, eqDs_nil_r, eqDs_nil_l, List.isEmpty_nil, List.isEmpty_cons, Bool.and_false, Bool.or_true, Bool.false_or, Bool.true_or, Bool.false_and, Bool.true_and, encB, wipS_mk, List.foldr_cons, List.foldr_nil, con_updW, ↓ixC_ownD, ↓oIx_tup, ↓oIx_lst, ↓oIx_str, ↓lenC_ownL, ↓lenC_ownD, ↓setC_ownD, putC_adr, Own_lst_inj, Con_own_inj, updW_upd, Nat.reduceSub, Nat.sub_self, ↓itD_lst, ↓itD_tup, ↓oInt_i, ↓oCmp_i, ↓oAdd_i, ↓oAdd_s, ↓oAdd_t, ↓oAdd_l, ↓oNeg_i, ↓o1I_i, ↓o2I_i, ↓oSl_t, ↓oSl_l, ↓oList_t, ↓oList_l, ↓oTuple_t, ↓oTuple_l, ↓oIn_t, ↓oIn_l, ↓oIsN_n, ↓ixC_ownLi, ↓setC_ownLi, ixN20, ixN21, ex_int1, ex_int2, ↓pSet_eq, ↓ixK_tup, ↓ixK_lst, ↓ixK_str, ↓ixK_dct, ↓lenK_tup, ↓lenK_lst, ↓lenK_str, ↓pSetO_eq, ↓pPar_eq, ↓kPar_mk, ↓pGet2, ↓pFrzO_eq, ↓kFrz_lst, ↓kFrz_dct, ↓pPairs_nil, ↓pPairs_cons, ↓poDisp, ↓getC_val, isDc_val, ↓poCat, ↓catD_l, ↓pVarV0, ↓pVarV1, ↓pVarV2, ↓pVarV3, ↓pVarV4, ↓pVarV5, ↓pVarV6, ↓pVarV7, ↓pVarV8, ↓pVarV9, ↓pVarV10, ↓pVarL0, ↓pVarL1, ↓pVarL2, ↓pVarL3, ↓pVarL4, ↓pVarL5, ↓pVarL6, ↓pVarL7, ↓pVarL8, ↓pVarL9, ↓pVarL10, ↓pVarD0, ↓pVarD1, ↓pVarD2, ↓pVarD3, ↓pVarD4, ↓pVarD5, ↓pVarD6, ↓pVarD7, ↓pVarD8, ↓pVarD9, ↓pVarD10, ↓pkVarV0, ↓pkVarV1, ↓pkVarV2, ↓pkVarV3, ↓pkVarV4, ↓pkVarV5, ↓pkVarV6, ↓pkVarV7, ↓pkVarV8, ↓pkVarV9, ↓pkVarV10, ↓pkVarO0, ↓pkVarO1, ↓pkVarO2, ↓pkVarO3, ↓pkVarO4, ↓pkVarO5, ↓pkVarO6, ↓pkVarO7, ↓pkVarO8, ↓pkVarO9, ↓pkVarO10, ↓kSetN0, ↓kSetN1, ↓kSetN2, ↓kSetN3, ↓kSetN4, ↓kSetN5, ↓kSetN6, ↓kSetN7, ↓kSetN8, ↓kSetN9, ↓kSetN10, ↓kSetO_N0, ↓kSetO_N1, ↓kSetO_N2, ↓kSetO_N3, ↓kSetO_N4, ↓kSetO_N5, ↓kSetO_N6, ↓kSetO_N7, ↓kSetO_N8, ↓kSetO_N9, ↓kSetO_N10, ↓pgNameN0, ↓pgNameN1, ↓pgNameN2, ↓pgNameN3, ↓pgNameN4, ↓pgNameN5, ↓pgNameN6, ↓pgNameN7, ↓pgNameN8, ↓pgNameN9, ↓pgNameN10, ↓ixS0, ↓ixS1, ↓ixS2, ↓ixS3, ↓ixS4, ↓ixS5, ↓ixS6, ↓ixS7, ↓ixS8, ↓ixS9, ↓ixS10, ↓lenS0, ↓lenS1, ↓lenS2, ↓lenS3, ↓lenS4, ↓lenS5, ↓lenS6, ↓lenS7, ↓lenS8, ↓lenS9, ↓lenS10, ↓setS0, ↓setS1, ↓setS2, ↓setS3, ↓setS4, ↓setS5, ↓setS6, ↓setS7, ↓setS8, ↓setS9, ↓setS10, ↓conS0, ↓conS1, ↓conS2, ↓conS3, ↓conS4, ↓conS5, ↓conS6, ↓conS7, ↓conS8, ↓conS9, ↓conS10, ↓putS0, ↓putS1, ↓putS2, ↓putS3, ↓putS4, ↓putS5, ↓putS6, ↓putS7, ↓putS8, ↓putS9, ↓putS10]
      rcases hv with ⟨n, rfl⟩ | rfl | rfl
      · by_cases hin : L.least ≤ n ∧ n ≤ 8
        · refine ⟨hP4, p, L, _, rfl, hL, hw4, rfl, fun L' hL' e => ?_, fun h => absurd ((most_iff hL).mpr ⟨n, rfl, hin⟩) (by rw [h]; decide)⟩
          walk_at "pls"
          rw [if_pos (decide_eq_true hin.1), if_pos (decide_eq_true hin.2)]
          refine ⟨wg1, wg1, ?_⟩
          rw [if_pos (beq_self_eq_true _), cut_most, ← e]
          exact ⟨cut_len2 L, q L' _ hL' updW_val (src_upd hs4 (Ne.symm pa)) (fun b h h2 => (updW_ne h2).trans (ho4 b h h2))⟩
        · have hno := most_no (v := .int n) hL (fun m e => by cases e; exact hin)
          refine ⟨hP4, p, L, _, rfl, hL, hw4, rfl, fun L' hL' e => absurd (isLoop_iff.mpr ⟨L', hL', e.symm⟩) (by rw [hno]; decide), fun h => ⟨false, e4, (fun h => nomatch h), fun _ => ⟨false, e5, (fun h => nomatch h), fun _ => ⟨true, e6, fun _ => ?_, fun h => by cases h⟩⟩⟩⟩
          try simp only [wg4, beq_self_eq_true, ↓pC, ↓pOp, ↓pUn, ↓pSl, ↓pPart, ↓pNil, ↓pCons, ↓pTup, ↓pLst, ↓pCallB, ↓pTest, ↓pNot, ↓pAnd, ↓pOr, ↓pAndV, ↓pOrV, ↓pNotV, ↓pIf, ↓pNext, ↓pSeq, ↓pBreak, ↓pCont, ↓pDrop, ↓pRet, ↓pRetN, ↓pIfS, ↓pgNil, ↓pgCons, ↓pgTup, ↓pAsg, ↓pRaise, ↓pCall, ↓pIter, ↓pFor, ↓pLc, ↓pYes, ↓pkOf, ↓pIxK, ↓pTabG, ↓pLenK, ↓pChain, ↓pStore, ↓pAppend, ↓pPop, ↓poLst, ↓poDct, ↓pNewW, ↓pRng1, ↓pRng2, ↓pTry, ↓pTryAs, ↓oEq, ↓oNe, ↓oLen, ↓oSum, ↓oAll, ↓oAny, ↓oIsi, start0, List.map_cons, List.map_nil, List.length_cons, List.length_nil, List.cons_append, List.nil_append, List.getElem?_cons_zero, List.getElem?_cons_succ, List.set_cons_zero, List.set_cons_succ, List.replicate, D.bl.injEq, D.int.injEq, D.str.injEq, D.tup.injEq, D.lst.injEq, exists_eq_left', exists_eq_left, Option.some.injEq, Bool.false_eq_true, if_true, if_false, true_and, and_true, false_and, and_false, isi_int, isi_bool, isi_str, isi_tuple, isi_list, isiT_int, isiT_bool, isiT_str, isiT_tuple, isiT_list, Bool.not_true, Bool.not_false, dat_non, dat_bl, dat_int, dat_str, dat_tup, dat_lst, isInt_non, isInt_bl, isInt_int, isInt_str, isInt_tup, isInt_lst, isBool_non, isBool_bl, isBool_int, isBool_str, isBool_tup, isBool_lst, isStr_non, isStr_bl, isStr_int, isStr_str, isStr_tup, isStr_lst, isTup_non, isTup_bl, isTup_int, isTup_str, isTup_tup, isTup_lst, isLst_non, isLst_bl, isLst_int, isLst_str, isLst_tup, isLst_lst, Nat.reduceAdd, Nat.zero_add, sz_0, sz_1, sz_2, sz_3, sz_4, sz_5, sz_6, sz_7, sz_8, sz_9, sz_10, sz_11, sz_12, List.any_cons, List.any_nil, eqD_tup, eqD_str, eqD_int, eqDs_cons, eqDs_nil, eqDs_cn, eqDs_nc, Bool.or_false, Bool.and_true, at0, at1, at2, at3, at4, good_int, good_bl, good_nil, good_nilL, good_non, eqDs_nil_r, eqDs_nil_l, List.isEmpty_nil, List.isEmpty_cons, Bool.and_false, Bool.or_true, Bool.false_or, Bool.true_or, Bool.false_and, Bool.true_and, encB, wipS_mk, List.foldr_cons, List.foldr_nil, con_updW, ↓ixC_ownD, ↓oIx_tup, ↓oIx_lst, ↓oIx_str, ↓lenC_ownL, ↓lenC_ownD, ↓setC_ownD, putC_adr, Own_lst_inj, Con_own_inj, updW_upd, Nat.reduceSub, Nat.sub_self, ↓itD_lst, ↓itD_tup, ↓oInt_i, ↓oCmp_i, ↓oAdd_i, ↓oAdd_s, ↓oAdd_t, ↓oAdd_l, ↓oNeg_i, ↓o1I_i, ↓o2I_i, ↓oSl_t, ↓oSl_l, ↓oList_t, ↓oList_l, ↓oTuple_t, ↓oTuple_l, ↓oIn_t, ↓oIn_l, ↓oIsN_n, ↓ixC_ownLi, ↓setC_ownLi, ixN20, ixN21, ex_int1, ex_int2, ↓pSet_eq, ↓ixK_tup, ↓ixK_lst, ↓ixK_str, ↓ixK_dct, ↓lenK_tup, ↓lenK_lst, ↓lenK_str, ↓pSetO_eq, ↓pPar_eq, ↓kPar_mk, ↓pGet2, ↓pFrzO_eq, ↓kFrz_lst, ↓kFrz_dct, ↓pPairs_nil, ↓pPairs_cons, ↓poDisp, ↓getC_val, isDc_val, ↓poCat, ↓catD_l, ↓pVarV0, ↓pVarV1, ↓pVarV2, ↓pVarV3, ↓pVarV4, ↓pVarV5, ↓pVarV6, ↓pVarV7, ↓pVarV8, ↓pVarV9, ↓pVarV10, ↓pVarL0, ↓pVarL1, ↓pVarL2, ↓pVarL3, ↓pVarL4, ↓pVarL5, ↓pVarL6, ↓pVarL7, ↓pVarL8, ↓pVarL9, ↓pVarL10, ↓pVarD0, ↓pVarD1, ↓pVarD2, ↓pVarD3, ↓pVarD4, ↓pVarD5, ↓pVarD6, ↓pVarD7, ↓pVarD8, ↓pVarD9, ↓pVarD10, ↓pkVarV0, ↓pkVarV1, ↓pkVarV2, ↓pkVarV3, ↓pkVarV4, ↓pkVarV5, ↓pkVarV6, ↓pkVarV7, ↓pkVarV8, ↓pkVarV9, ↓pkVarV10, ↓pkVarO0, ↓pkVarO1, ↓pkVarO2, ↓pkVarO3, ↓pkVarO4, ↓pkVarO5, ↓pkVarO6, ↓pkVarO7, ↓pkVarO8, ↓pkVarO9, ↓pkVarO10, ↓kSetN0, ↓kSetN1, ↓kSetN2, ↓kSetN3, ↓kSetN4, ↓kSetN5, ↓kSetN6, ↓kSetN7, ↓kSetN8, ↓kSetN9, ↓kSetN10, ↓kSetO_N0, ↓kSetO_N1, ↓kSetO_N2, ↓kSetO_N3, ↓kSetO_N4, ↓kSetO_N5, ↓kSetO_N6, ↓kSetO_N7, ↓kSetO_N8, ↓kSetO_N9, ↓kSetO_N10, ↓pgNameN0, ↓pgNameN1, ↓pgNameN2, ↓pgNameN3, ↓pgNameN4, ↓pgNameN5, ↓pgNameN6, ↓pgNameN7, ↓pgNameN8, ↓pgNameN9, ↓pgNameN10, ↓ixS0, ↓ixS1, ↓ixS2, ↓ixS3, ↓ixS4, ↓ixS5, ↓ixS6, ↓ixS7, ↓ixS8, ↓ixS9, ↓ixS10, ↓lenS0, ↓lenS1, ↓lenS2, ↓lenS3, ↓lenS4, ↓lenS5, ↓lenS6, ↓lenS7, ↓lenS8, ↓lenS9, ↓lenS10, ↓setS0, ↓setS1, ↓setS2, ↓setS3, ↓setS4, ↓setS5, ↓setS6, ↓setS7, ↓setS8, ↓setS9, ↓setS10, ↓conS0, ↓conS1, ↓conS2, ↓conS3, ↓conS4, ↓conS5, ↓conS6, ↓conS7, ↓conS8, ↓conS9, ↓conS10, ↓putS0, ↓putS1, ↓putS2, ↓putS3, ↓putS4, ↓putS5, ↓putS6, ↓putS7, ↓putS8, ↓putS9, ↓putS10]
          refine ite2 (fun c => ?_) (fun _ => q L W4 hL hw4 hs4 ho4)
          refine ite2 (fun c' => absurd ⟨of_decide_eq_true c, of_decide_eq_true c'⟩ hin) (fun _ => q L W4 hL hw4 hs4 ho4)
      · have hno := most_no (v := .non) hL (fun m e => by cases e)
        refine ⟨hP4, p, L, _, rfl, hL, hw4, rfl, fun L' hL' e => absurd (isLoop_iff.mpr ⟨L', hL', e.symm⟩) (by rw [hno]; decide), fun h => ⟨false, e4, (fun h => nomatch h), fun _ => ⟨false, e5, (fun h => nomatch h), fun _ => ⟨true, e6, fun _ => ?_, fun h => by cases h⟩⟩⟩⟩
        try simp only [wg4, beq_self_eq_true, ↓pC, ↓pOp, ↓pUn, ↓pSl, ↓pPart, ↓pNil, ↓pCons, ↓pTup, ↓pLst, ↓pCallB, ↓pTest, ↓pNot, ↓pAnd, ↓pOr, ↓pAndV, ↓pOrV, ↓pNotV, ↓pIf, ↓pNext, ↓pSeq, ↓pBreak, ↓pCont, ↓pDrop, ↓pRet, ↓pRetN, ↓pIfS, ↓pgNil, ↓pgCons, ↓pgTup, ↓pAsg, ↓pRaise, ↓pCall, ↓pIter, ↓pFor, ↓pLc, ↓pYes, ↓pkOf, ↓pIxK, ↓pTabG, ↓pLenK, ↓pChain, ↓pStore, ↓pAppend, ↓pPop, ↓poLst, ↓poDct, ↓pNewW, ↓pRng1, ↓pRng2, ↓pTry, ↓pTryAs, ↓oEq, ↓oNe, ↓oLen, ↓oSum, ↓oAll, ↓oAny, ↓oIsi, start0, List.map_cons, List.map_nil, List.length_cons, List.length_nil, List.cons_append, List.nil_append, List.getElem?_cons_zero, List.getElem?_cons_succ, List.set_cons_zero, List.set_cons_succ, List.replicate, D.bl.injEq, D.int.injEq, D.str.injEq, D.tup.injEq, D.lst.injEq, exists_eq_left', exists_eq_left, Option.some.injEq, Bool.false_eq_true, if_true, if_false, true_and, and_true, false_and, and_false, isi_int, isi_bool, isi_str, isi_tuple, isi_list, isiT_int, isiT_bool, isiT_str, isiT_tuple, isiT_list, Bool.not_true, Bool.not_false, dat_non, dat_bl, dat_int, dat_str, dat_tup, dat_lst, isInt_non, isInt_bl, isInt_int, isInt_str, isInt_tup, isInt_lst, isBool_non, isBool_bl, isBool_int, isBool_str, isBool_tup, isBool_lst, isStr_non, isStr_bl, isStr_int, isStr_str, isStr_tup, isStr_lst, isTup_non, isTup_bl, isTup_int, isTup_str, isTup_tup, isTup_lst, isLst_non, isLst_bl, isLst_int, isLst_str, isLst_tup, isLst_lst, Nat.reduceAdd, Nat.zero_add, sz_0, sz_1, sz_2, sz_3, sz_4, sz_5, sz_6, sz_7, sz_8, sz_9, sz_10, sz_11, sz_12, List.any_cons, List.any_nil, eqD_tup, eqD_str, eqD_int, eqDs_cons, eqDs_nil, eqDs_cn, eqDs_nc, Bool.or_false, Bool.and_true, at0, at1, at2, at3, at4, good_int, good_bl, good_nil, good_nilL, good_non, eqDs_nil_r, eqDs_nil_l, List.isEmpty_nil, List.isEmpty_cons, Bool.and_false, Bool.or_true, Bool.false_or, Bool.true_or, Bool.false_and, Bool.true_and, encB, wipS_mk, List.foldr_cons, List.foldr_nil, con_updW, ↓ixC_ownD, ↓oIx_tup, ↓oIx_lst, ↓oIx_str, ↓lenC_ownL, ↓lenC_ownD, ↓setC_ownD, putC_adr, Own_lst_inj, Con_own_inj, updW_upd, Nat.reduceSub, Nat.sub_self, ↓itD_lst, ↓itD_tup, ↓oInt_i, ↓oCmp_i, ↓oAdd_i, ↓oAdd_s, ↓oAdd_t, ↓oAdd_l, ↓oNeg_i, ↓o1I_i, ↓o2I_i, ↓oSl_t, ↓oSl_l, ↓oList_t, ↓oList_l, ↓oTuple_t, ↓oTuple_l, ↓oIn_t, ↓oIn_l, ↓oIsN_n, ↓ixC_ownLi, ↓setC_ownLi, ixN20, ixN21, ex_int1, ex_int2, ↓pSet_eq, ↓ixK_tup, ↓ixK_lst, ↓ixK_str, ↓ixK_dct, ↓lenK_tup, ↓lenK_lst, ↓lenK_str, ↓pSetO_eq, ↓pPar_eq, ↓kPar_mk, ↓pGet2, ↓pFrzO_eq, ↓kFrz_lst, ↓kFrz_dct, ↓pPairs_nil, ↓pPairs_cons, ↓poDisp, ↓getC_val, isDc_val, ↓poCat, ↓catD_l, ↓pVarV0, ↓pVarV1, ↓pVarV2, ↓pVarV3, ↓pVarV4, ↓pVarV5, ↓pVarV6, ↓pVarV7, ↓pVarV8, ↓pVarV9, ↓pVarV10, ↓pVarL0, ↓pVarL1, ↓pVarL2, ↓pVarL3, ↓pVarL4, ↓pVarL5, ↓pVarL6, ↓pVarL7, ↓pVarL8, ↓pVarL9, ↓pVarL10, ↓pVarD0, ↓pVarD1, ↓pVarD2, ↓pVarD3, ↓pVarD4, ↓pVarD5, ↓pVarD6, ↓pVarD7, ↓pVarD8, ↓pVarD9, ↓pVarD10, ↓pkVarV0, ↓pkVarV1, ↓pkVarV2, ↓pkVarV3, ↓pkVarV4, ↓pkVarV5, ↓pkVarV6, ↓pkVarV7, ↓pkVarV8, ↓pkVarV9, ↓pkVarV10, ↓pkVarO0, ↓pkVarO1, ↓pkVarO2, ↓pkVarO3, ↓pkVarO4, ↓pkVarO5, ↓pkVarO6, ↓pkVarO7, ↓pkVarO8, ↓pkVarO9, ↓pkVarO10, ↓kSetN0, ↓kSetN1, ↓kSetN2, ↓kSetN3, ↓kSetN4, ↓kSetN5, ↓kSetN6, ↓kSetN7, ↓kSetN8, ↓kSetN9, ↓kSetN10, ↓kSetO_N0, ↓kSetO_N1, ↓kSetO_N2, ↓kSetO_N3, ↓kSetO_N4, ↓kSetO_N5, ↓kSetO_N6, ↓kSetO_N7, ↓kSetO_N8, ↓kSetO_N9, ↓kSetO_N10, ↓pgNameN0, ↓pgNameN1, ↓pgNameN2, ↓pgNameN3, ↓pgNameN4, ↓pgNameN5, ↓pgNameN6, ↓pgNameN7, ↓pgNameN8, ↓pgNameN9, ↓pgNameN10, ↓ixS0, ↓ixS1, ↓ixS2, ↓ixS3, ↓ixS4, ↓ixS5, ↓ixS6, ↓ixS7, ↓ixS8, ↓ixS9, ↓ixS10, ↓lenS0, ↓lenS1, ↓lenS2, ↓lenS3, ↓lenS4, ↓lenS5, ↓lenS6, ↓lenS7, ↓lenS8, ↓lenS9, ↓lenS10, ↓setS0, ↓setS1, ↓setS2, ↓setS3, ↓setS4, ↓setS5, ↓setS6, ↓setS7, ↓setS8, ↓setS9, ↓setS10, ↓conS0, ↓conS1, ↓conS2, ↓conS3, ↓conS4, ↓conS5, ↓conS6, ↓conS7, ↓conS8, ↓conS9, ↓conS10, ↓putS0, ↓putS1, ↓putS2, ↓putS3, ↓putS4, ↓putS5, ↓putS6, ↓putS7, ↓putS8, ↓putS9, ↓putS10]
        exact q L W4 hL hw4 hs4 ho4
      · have hno := most_no (v := .bl true) hL (fun m e => by cases e)
        refine ⟨hP4, p, L, _, rfl, hL, hw4, rfl, fun L' hL' e => absurd (isLoop_iff.mpr ⟨L', hL', e.symm⟩) (by rw [hno]; decide), fun h => ⟨false, e4, (fun h => nomatch h), fun _ => ⟨false, e5, (fun h => nomatch h), fun _ => ⟨true, e6, fun _ => ?_, fun h => by cases h⟩⟩⟩⟩
        try simp only [wg4, beq_self_eq_true, ↓pC, ↓pOp, ↓pUn, ↓pSl, ↓pPart, ↓pNil, ↓pCons, ↓pTup, ↓pLst, ↓pCallB, ↓pTest, ↓pNot, ↓pAnd, ↓pOr, ↓pAndV, ↓pOrV, ↓pNotV, ↓pIf, ↓pNext, ↓pSeq, ↓pBreak, ↓pCont, ↓pDrop, ↓pRet, ↓pRetN, ↓pIfS, ↓pgNil, ↓pgCons, ↓pgTup, ↓pAsg, ↓pRaise, ↓pCall, ↓pIter, ↓pFor, ↓pLc, ↓pYes, ↓pkOf, ↓pIxK, ↓pTabG, ↓pLenK, ↓pChain, ↓pStore, ↓pAppend, ↓pPop, ↓poLst, ↓poDct, ↓pNewW, ↓pRng1, ↓pRng2, ↓pTry, ↓pTryAs, ↓oEq, ↓oNe, ↓oLen, ↓oSum, ↓oAll, ↓oAny, ↓oIsi, start0, List.map_cons, List.map_nil, List.length_cons, List.length_nil, List.cons_append, List.nil_append, List.getElem?_cons_zero, List.getElem?_cons_succ, List.set_cons_zero, List.set_cons_succ, List.replicate, D.bl.injEq, D.int.injEq, D.str.injEq, D.tup.injEq, D.lst.injEq, exists_eq_left', exists_eq_left, Option.some.injEq, Bool.false_eq_true, if_true, if_false, true_and, and_true, false_and, and_false, isi_int, isi_bool, isi_str, isi_tuple, isi_list, isiT_int, isiT_bool, isiT_str, isiT_tuple, isiT_list, Bool.not_true, Bool.not_false, dat_non, dat_bl, dat_int, dat_str, dat_tup, dat_lst, isInt_non, isInt_bl, isInt_int, isInt_str, isInt_tup, isInt_lst, isBool_non, isBool_bl, isBool_int, isBool_str, isBool_tup, isBool_lst, isStr_non, isStr_bl, isStr_int, isStr_str, isStr_tup, isStr_lst, isTup_non, isTup_bl, isTup_int, isTup_str, isTup_tup, isTup_lst, isLst_non, isLst_bl, isLst_int, isLst_str, isLst_tup, isLst_lst, Nat.reduceAdd, Nat.zero_add, sz_0, sz_1, sz_2, sz_3, sz_4, sz_5, sz_6, sz_7, sz_8, sz_9, sz_10, sz_11, sz_12, List.any_cons, List.any_nil, eqD_tup, eqD_str, eqD_int, eqDs_cons, eqDs_nil, eqDs_cn, eqDs_nc, Bool.or_false, Bool.and_true, at0, at1, at2, at3, at4, good_int, good_bl, good_nil, good_nilL, good_non, eqDs_nil_r, eqDs_nil_l, List.isEmpty_nil, List.isEmpty_cons, Bool.and_false, Bool.or_true, Bool.false_or, Bool.true_or, Bool.false_and, Bool.true_and, encB, wipS_mk, List.foldr_cons, List.foldr_nil, con_updW, ↓ixC_ownD, ↓oIx_tup, ↓oIx_lst, ↓oIx_str, ↓lenC_ownL, ↓lenC_ownD, ↓setC_ownD, putC_adr, Own_lst_inj, Con_own_inj, updW_upd, Nat.reduceSub, Nat.sub_self, ↓itD_lst, ↓itD_tup, ↓oInt_i, ↓oCmp_i, ↓oAdd_i, ↓oAdd_s, ↓oAdd_t, ↓oAdd_l, ↓oNeg_i, ↓o1I_i, ↓o2I_i, ↓oSl_t, ↓oSl_l, ↓oList_t, ↓oList_l, ↓oTuple_t, ↓oTuple_l, ↓oIn_t, ↓oIn_l, ↓oIsN_n, ↓ixC_ownLi, ↓setC_ownLi, ixN20, ixN21, ex_int1, ex_int2, ↓pSet_eq, ↓ixK_tup, ↓ixK_lst, ↓ixK_str, ↓ixK_dct, ↓lenK_tup, ↓lenK_lst, ↓lenK_str, ↓pSetO_eq, ↓pPar_eq, ↓kPar_mk, ↓pGet2, ↓pFrzO_eq, ↓kFrz_lst, ↓kFrz_dct, ↓pPairs_nil, ↓pPairs_cons, ↓poDisp, ↓getC_val, isDc_val, ↓poCat, ↓catD_l, ↓pVarV0, ↓pVarV1, ↓pVarV2, ↓pVarV3, ↓pVarV4, ↓pVarV5, ↓pVarV6, ↓pVarV7, ↓pVarV8, ↓pVarV9, ↓pVarV10, ↓pVarL0, ↓pVarL1, ↓pVarL2, ↓pVarL3, ↓pVarL4, ↓pVarL5, ↓pVarL6, ↓pVarL7, ↓pVarL8, ↓pVarL9, ↓pVarL10, ↓pVarD0, ↓pVarD1, ↓pVarD2, ↓pVarD3, ↓pVarD4, ↓pVarD5, ↓pVarD6, ↓pVarD7, ↓pVarD8, ↓pVarD9, ↓pVarD10, ↓pkVarV0, ↓pkVarV1, ↓pkVarV2, ↓pkVarV3, ↓pkVarV4, ↓pkVarV5, ↓pkVarV6, ↓pkVarV7, ↓pkVarV8, ↓pkVarV9, ↓pkVarV10, ↓pkVarO0, ↓pkVarO1, ↓pkVarO2, ↓pkVarO3, ↓pkVarO4, ↓pkVarO5, ↓pkVarO6, ↓pkVarO7, ↓pkVarO8, ↓pkVarO9, ↓pkVarO10, ↓kSetN0, ↓kSetN1, ↓kSetN2, ↓kSetN3, ↓kSetN4, ↓kSetN5, ↓kSetN6, ↓kSetN7, ↓kSetN8, ↓kSetN9, ↓kSetN10, ↓kSetO_N0, ↓kSetO_N1, ↓kSetO_N2, ↓kSetO_N3, ↓kSetO_N4, ↓kSetO_N5, ↓kSetO_N6, ↓kSetO_N7, ↓kSetO_N8, ↓kSetO_N9, ↓kSetO_N10, ↓pgNameN0, ↓pgNameN1, ↓pgNameN2, ↓pgNameN3, ↓pgNameN4, ↓pgNameN5, ↓pgNameN6, ↓pgNameN7, ↓pgNameN8, ↓pgNameN9, ↓pgNameN10, ↓ixS0, ↓ixS1, ↓ixS2, ↓ixS3, ↓ixS4, ↓ixS5, ↓ixS6, ↓ixS7, ↓ixS8, ↓ixS9, ↓ixS10, ↓lenS0, ↓lenS1, ↓lenS2, ↓lenS3, ↓lenS4, ↓lenS5, ↓lenS6, ↓lenS7, ↓lenS8, ↓lenS9, ↓lenS10, ↓setS0, ↓setS1, ↓setS2, ↓setS3, ↓setS4, ↓setS5, ↓setS6, ↓setS7, ↓setS8, ↓setS9, ↓setS10, ↓conS0, ↓conS1, ↓conS2, ↓conS3, ↓conS4, ↓conS5, ↓conS6, ↓conS7, ↓conS8, ↓conS9, ↓conS10, ↓putS0, ↓putS1, ↓putS2, ↓putS3, ↓putS4, ↓putS5, ↓putS6, ↓putS7, ↓putS8, ↓putS9, ↓putS10]
        exact q L W4 hL hw4 hs4 ho4
abbrev s_law : Stmt := topS 88
abbrev N_law : List Str := ["script", "k", "source", "now", "value", "same", "early", "first", "turn", "odd"]
theorem sc_law : FnScope N_law ["script"] (defScope s_law) := ⟨rfl, rfl, rfl, by decide +kernel, rfl, by decide +kernel, by decide +kernel⟩
theorem ok_law {C_Loop C_InvalidStatement C_InvalidNumber C_InvalidLoop C_PaceError p_code p_change : Addr} {k : Nat}  {c_code : Addr} {f : Addr} {fd : FuncData} (F : FunC K "law" "law" s_law f fd c_code) (m_range : mg "range" = none) (m_min : mg "min" = none) (m_len : mg "len" = none) (c__law_size : CallF P w K mg base "_law_size" 1 k (φ__law_size 3)) (x_InvalidStatement : ExC K mg "InvalidStatement" C_InvalidStatement) (x_InvalidNumber : ExC K mg "InvalidNumber" C_InvalidNumber) (x_InvalidLoop : ExC K mg "InvalidLoop" C_InvalidLoop) (x_PaceError : ExC K mg "PaceError" C_PaceError) (w__law_word : WordD K mg "_law_word" [(C_InvalidStatement, "statement"), (C_InvalidNumber, "number"), (C_InvalidLoop, "loop"), (C_PaceError, "else")]) (t_code : LamX.TabB base mg c_code p_code) (c_Loop_getitem : MetF P w K mg base C_Loop "__getitem__" 2 k (φ_Loop_getitem C_Loop C_InvalidNumber)) (c_Loop_eq : MetF P w K mg base C_Loop "__eq__" 2 k (φ_Loop_eq C_Loop)) (c__law_value : CallF P w K mg base "_law_value" 1 k (φ__law_value C_Loop)) (p_Loop_source : PropF P w K mg base C_Loop "source" k (φ_Loop_source C_Loop)) (i_Loop : InC K C_Loop) (c__law_draw : CallF P w K mg base "_law_draw" 2 k (φ__law_draw)) (c__law_change : CallF P w K mg base "_law_change" 3 k (φ__law_change C_Loop p_change)) (c__law_loop : CallF P w K mg base "_law_loop" 1 k (φ__law_loop)) (c__law_source : CallF P w K mg base "_law_source" 2 k (φ__law_source)) (e2 : PySem.W.exmOne K (.ref C_InvalidNumber) (.ref C_InvalidStatement) = some false) (e3 : PySem.W.exmOne K (.ref C_InvalidNumber) (.ref C_InvalidNumber) = some true) :
    FnOk P w K mg base (L2.CX P w) (k + 3 + 1) f fd ["script"] (spP K 1 (φ_law20 p_code p_change)) := by
  refine ok_ofC (N := N_law) (k := k + 3) F sc_law fun A outer s H E hr => ⟨_, (pmss_cons (pms_for (passes_of rfl) rfl (pmi_range1 (by rfl) m_range (pma_cons (pm_op od_add pm_int (pm_callB (cd_min2 rfl) (by rfl) m_min (by decide +kernel) (pma_cons (pm_lenK (by rfl) m_len (pk_var (pv 0))) (pma_cons pm_int pma_nil)))) pma_nil)) (pmg_of (vs := [1]) (pg_name (i := 1) sc_law.nd rfl (.inl rfl)))
      (pmss_cons (pms_set (i := 2) (fun W t => ps_set (i := 2) sc_law.nd rfl (.inl rfl) ((pm_callF c__law_source (hr.mono (by omega)) (by rfl) (pma_cons (pm_var (pv 0)) (pma_cons (pm_var (pv 1)) pma_nil))) W t)))
      (pmss_cons (pms_set (i := 3) (fun W t => ps_set (i := 3) sc_law.nd rfl (.inl rfl) ((pm_callF c__law_loop (hr.mono (by omega)) (by rfl) (pma_cons (pm_var (pv 2)) pma_nil)) W t)))
      (pmss_cons (pms_set (i := 4) (fun W t => ps_set (i := 4) sc_law.nd rfl (.inr rfl) ((pm_callF c__law_value (hr.mono (by omega)) (by rfl) (pma_cons (pm_var (pv 3)) pma_nil)) W t)))
      (pmss_cons (pms_par3 (i := 5) (j := 6) (l := 7) (fun W t => ps_par3 (i := 5) (j := 6) (l := 7) rfl sc_law.nd rfl rfl rfl (by decide) (by decide) (by decide) rfl rfl rfl ((pma_cons (pm_var (pv 4)) (pma_cons (pm_callF c__law_value (hr.mono (by omega)) (by rfl) (pma_cons (pm_var (pv 3)) pma_nil)) (pma_cons (pm_var (pv 3)) pma_nil))) W t) (by rfl)))
      (pmss_cons (pms_for (passes_of rfl) rfl (pmi_range1 (by rfl) m_range (pma_cons (pm_callF c__law_draw (hr.mono (by omega)) (by rfl) (pma_cons (pm_var (pv 2)) (pma_cons pm_int pma_nil))) pma_nil)) (pmg_of (vs := [8]) (pg_name (i := 8) sc_law.nd rfl (.inl rfl)))
      (pmss_cons (pms_set (i := 3) (fun W t => ps_set (i := 3) sc_law.nd rfl (.inl rfl) ((pm_callF c__law_change (hr.mono (by omega)) (by rfl) (pma_cons (pm_var (pv 2)) (pma_cons (pm_var (pv 4)) (pma_cons (pm_var (pv 3)) pma_nil)))) W t)))
      (pmss_one (pms_if (pmt_w (pmw_or (pmt_cmp od_isN (pm_var (pv 3)) pm_non (nomark _)) (pmw_or (pmt_cmp (od_ne (Room.hu64 hr)) (pm_propF i_Loop.cl p_Loop_source (hr.mono (by omega)) (pm_var (pv 4))) (pm_var (pv 3)) (nomark _)) (pmw_or (pmt_cmp (od_ne (Room.hu64 hr)) (pm_propF i_Loop.cl p_Loop_source (hr.mono (by omega)) (pm_var (pv 5))) (pm_var (pv 3)) (nomark _)) (pmw_or1 (pmt_not (pmt_eqOwn c_Loop_eq (hr.mono (by omega)) (pm_var (pv 5)) (pm_var (pv 4))))))))) (pmss_one (pms_ret pm_bl)) pmss_nil))))
      (pmss_cons (pms_if (pmt_w (pmw_or (pmt_cmp (od_ne (Room.hu64 hr)) (pm_propF i_Loop.cl p_Loop_source (hr.mono (by omega)) (pm_var (pv 6))) (pm_var (pv 7)) (nomark _)) (pmw_or (pmt_not (pmt_eqOwn c_Loop_eq (hr.mono (by omega)) (pm_var (pv 6)) (pm_callF c__law_value (hr.mono (by omega)) (by rfl) (pma_cons (pm_var (pv 7)) pma_nil)))) (pmw_or1 (pmt_not (pmt_eqOwn c_Loop_eq (hr.mono (by omega)) (pm_var (pv 4)) (pm_callF c__law_value (hr.mono (by omega)) (by rfl) (pma_cons (pm_var (pv 3)) pma_nil)))))))) (pmss_one (pms_ret pm_bl)) pmss_nil)
      (pmss_one (pms_for (passes_of rfl) rfl (pmi_seq (pm_tup (pma_cons (pm_un ud_neg pm_int) (pma_cons (pm_callF c__law_size (hr.mono (by omega)) (by rfl) (pma_cons (pm_ixK (Room.hu1 hr) (pk_var (pv 3)) pm_int (fun _ _ => rfl)) pma_nil)) (pma_cons pm_non (pma_cons pm_bl (pma_cons pm_str pma_nil))))))) (pmg_of (vs := [9]) (pg_name (i := 9) sc_law.nd rfl (.inr rfl)))
      (pmss_one (pms_if (pmt_cmp (od_ne (Room.hu64 hr)) (pm_word (P := p_code) (k := k + 1) (q := lamQ "law") (by exact w__law_word.gets) (by rfl) (by exact t_code) (by rfl) (hr.mono (by omega)) (by rfl) (by exact LamX.lamS_by (sc := defScope s_law) (by decide +kernel)) (by rfl) (by exact fun _ _ _ _ _ => rfl) (by exact fun A outer s H E f c' hr => (pm_ixOwn c_Loop_getitem (hr.mono (by omega)) (pm_var (pv 4)) (pm_var (pv 9)) (fun _ _ => by with_unfolding_all rfl)))) pm_str (nomark _)) (pmss_one (pms_ret pm_bl)) pmss_nil)))))))))))
      (pmss_one (pms_ret pm_bl))), ?_⟩
  rintro ds Wo Q E' - ⟨xs, rfl, h63, hT, q⟩
  walk_at "pls"
  refine ⟨by split <;> omega, ?_⟩
  refine forW_range (fun _ S => ∃ W s1 s2 s3 s4 s5 s6 s7 s8 s9, Tb W p_code p_change ∧ S = ⟨[.val (.lst (xs.map D.int)), s1, s2, s3, s4, s5, s6, s7, s8, s9], W⟩) ?_ ?_ ⟨_, _, _, _, _, _, _, _, _, _, hT, rfl⟩
  · rintro S ⟨W, s1, s2, s3, s4, s5, s6, s7, s8, s9, hT, rfl⟩
    walk_at "pls"
    exact q _
  · rintro k S K' hk ⟨W, s1, s2, s3, s4, s5, s6, s7, s8, s9, hT, rfl⟩ hK
    walk_at "pls"
    refine ⟨xs, _, rfl, by omega, by split at hk <;> omega, fun a W1 d1 ha => ?_⟩
    refine ⟨a, rfl, d1.src, fun L W2 hL d2 => ?_⟩
    have hT2 := (hT.dr d1 (.inl ha)).dr d2 (.inr d1.src)
    have hs2 := d2.src
    have ok := hL.1
    walk_at "pls"
    refine ⟨L, rfl, ok, fun p hp => ?_⟩
    try simp only [↓pPar3_eq, ↓pC, ↓pOp, ↓pUn, ↓pSl, ↓pPart, ↓pNil, ↓pCons, ↓pTup, ↓pLst, ↓pCallB, ↓pTest, ↓pNot, ↓pAnd, ↓pOr, ↓pAndV, ↓pOrV, ↓pNotV, ↓pIf, ↓pNext, ↓pSeq, ↓pBreak, ↓pCont, ↓pDrop, ↓pRet, ↓pRetN, ↓pIfS, ↓pgNil, ↓pgCons, ↓pgTup, ↓pAsg, ↓pRaise, ↓pCall, ↓pIter, ↓pFor, ↓pLc, ↓pYes, ↓pkOf, ↓pIxK, ↓pTabG, ↓pLenK, ↓pChain, ↓pStore, ↓pAppend, ↓pPop, ↓poLst, ↓poDct, ↓pNewW, ↓pRng1, ↓pRng2, ↓pTry, ↓pTryAs, ↓oEq, ↓oNe, ↓oLen, ↓oSum, ↓oAll, ↓oAny, ↓oIsi, start0, List.map_cons, List.map_nil, List.length_cons, List.length_nil, List.cons_append, List.nil_append, List.getElem?_cons_zero, List.getElem?_cons_succ, List.set_cons_zero, List.set_cons_succ, List.replicate, D.bl.injEq, D.int.injEq, D.str.injEq, D.tup.injEq, D.lst.injEq, exists_eq_left', exists_eq_left, Option.some.injEq, Bool.false_eq_true, if_true, if_false, true_and, and_true, false_and, and_false, isi_int, isi_bool, isi_str, isi_tuple, isi_list, isiT_int, isiT_bool, isiT_str, isiT_tuple, isiT_list, Bool.not_true, Bool.not_false, dat_non, dat_bl, dat_int, dat_str, dat_tup, dat_lst, isInt_non, isInt_bl, isInt_int, isInt_str, isInt_tup, isInt_lst, isBool_non, isBool_bl, isBool_int, isBool_str, isBool_tup, isBool_lst, isStr_non, isStr_bl, isStr_int, isStr_str, isStr_tup, isStr_lst, isTup_non, isTup_bl, isTup_int, isTup_str, isTup_tup, isTup_lst, isLst_non, isLst_bl, isLst_int, isLst_str, isLst_tup, isLst_lst, Nat.reduceAdd, Nat.zero_add, sz_0, sz_1, sz_2, sz_3, sz_4, sz_5, sz_6, sz_7, sz_8, sz_9, sz_10, sz_11, sz_12, List.any_cons, List.any_nil, eqD_tup, eqD_str, eqD_int, eqDs_cons, eqDs_nil, eqDs_cn, eqDs_nc, Bool.or_false, Bool.and_true, at0, at1, at2, at3, at4, good_int, good_bl, good_nil, good_nilL, good_non, eqDs_nil_r, eqDs_nil_l, List.isEmpty_nil, List.isEmpty_cons, Bool.and_false, Bool.or_true, Bool.false_or, Bool.true_or, Bool.false_and, Bool.true_and, encB, wipS_mk, List.foldr_cons, List.foldr_nil, con_updW, ↓ixC_ownD, ↓oIx_tup, ↓oIx_lst, ↓oIx_str, ↓lenC_ownL, ↓lenC_ownD, ↓setC_ownD, putC_adr, Own_lst_inj, Con_own_inj, updW_upd, Nat.reduceSub, Nat.sub_self, ↓itD_lst, ↓itD_tup, ↓oInt_i, ↓oCmp_i, ↓oAdd_i, ↓oAdd_s, ↓oAdd_t, ↓oAdd_l, ↓oNeg_i, ↓o1I_i, ↓o2I_i, ↓oSl_t, ↓oSl_l, ↓oList_t, ↓oList_l, ↓oTuple_t, ↓oTuple_l, ↓oIn_t, ↓oIn_l, ↓oIsN_n, ↓ixC_ownLi, ↓setC_ownLi, ixN20, ixN21, ex_int1, ex_int2, ↓pSet_eq, ↓ixK_tup, ↓ixK_lst, ↓ixK_str, ↓ixK_dct, ↓lenK_tup, ↓lenK_lst, ↓lenK_str, ↓pSetO_eq, ↓pPar_eq, ↓kPar_mk, ↓pGet2, ↓pFrzO_eq, ↓kFrz_lst, ↓kFrz_dct, ↓pPairs_nil, ↓pPairs_cons, ↓poDisp, ↓getC_val, isDc_val, ↓poCat, ↓catD_l, ↓pVarV0, ↓pVarV1, ↓pVarV2, ↓pVarV3, ↓pVarV4, ↓pVarV5, ↓pVarV6, ↓pVarV7, ↓pVarV8, ↓pVarV9, ↓pVarL0, ↓pVarL1, ↓pVarL2, ↓pVarL3, ↓pVarL4, ↓pVarL5, ↓pVarL6, ↓pVarL7, ↓pVarL8, ↓pVarL9, ↓pVarD0, ↓pVarD1, ↓pVarD2, ↓pVarD3, ↓pVarD4, ↓pVarD5, ↓pVarD6, ↓pVarD7, ↓pVarD8, ↓pVarD9, ↓pkVarV0, ↓pkVarV1, ↓pkVarV2, ↓pkVarV3, ↓pkVarV4, ↓pkVarV5, ↓pkVarV6, ↓pkVarV7, ↓pkVarV8, ↓pkVarV9, ↓pkVarO0, ↓pkVarO1, ↓pkVarO2, ↓pkVarO3, ↓pkVarO4, ↓pkVarO5, ↓pkVarO6, ↓pkVarO7, ↓pkVarO8, ↓pkVarO9, ↓kSetN0, ↓kSetN1, ↓kSetN2, ↓kSetN3, ↓kSetN4, ↓kSetN5, ↓kSetN6, ↓kSetN7, ↓kSetN8, ↓kSetN9, ↓kSetO_N0, ↓kSetO_N1, ↓kSetO_N2, ↓kSetO_N3, ↓kSetO_N4, ↓kSetO_N5, ↓kSetO_N6, ↓kSetO_N7, ↓kSetO_N8, ↓kSetO_N9, ↓pgNameN0, ↓pgNameN1, ↓pgNameN2, ↓pgNameN3, ↓pgNameN4, ↓pgNameN5, ↓pgNameN6, ↓pgNameN7, ↓pgNameN8, ↓pgNameN9, ↓ixS0, ↓ixS1, ↓ixS2, ↓ixS3, ↓ixS4, ↓ixS5, ↓ixS6, ↓ixS7, ↓ixS8, ↓ixS9, ↓lenS0, ↓lenS1, ↓lenS2, ↓lenS3, ↓lenS4, ↓lenS5, ↓lenS6, ↓lenS7, ↓lenS8, ↓lenS9, ↓setS0, ↓setS1, ↓setS2, ↓setS3, ↓setS4, ↓setS5, ↓setS6, ↓setS7, ↓setS8, ↓setS9, ↓conS0, ↓conS1, ↓conS2, ↓conS3, ↓conS4, ↓conS5, ↓conS6, ↓conS7, ↓conS8, ↓conS9, ↓putS0, ↓putS1, ↓putS2, ↓putS3, ↓putS4, ↓putS5, ↓putS6, ↓putS7, ↓putS8, ↓putS9]
    refine ⟨L, rfl, ok, fun p2 hp2 => ?_⟩
    have n21 : p2 ≠ p := by
      rintro rfl
      rw [updW_self] at hp2; cases hp2
    have hp2' : W2 p2 = none := (updW_ne n21).symm.trans hp2
    have na : ∀ b, W2 b = none → b ≠ a := fun b hb z => by
      subst z
      obtain ⟨x, y, h⟩ := hs2
      rw [hb] at h; cases h
    try simp only [kPar3_mk, ↓pC, ↓pOp, ↓pUn, ↓pSl, ↓pPart, ↓pNil, ↓pCons, ↓pTup, ↓pLst, ↓pCallB, ↓pTest, ↓pNot, ↓pAnd, ↓pOr, ↓pAndV, ↓pOrV, ↓pNotV, ↓pIf, ↓pNext, ↓pSeq, ↓pBreak, ↓pCont, ↓pDrop, ↓pRet, ↓pRetN, ↓pIfS, ↓pgNil, ↓pgCons, ↓pgTup, ↓pAsg, ↓pRaise, ↓pCall, ↓pIter, ↓pFor, ↓pLc, ↓pYes, ↓pkOf, ↓pIxK, ↓pTabG, ↓pLenK, ↓pChain, ↓pStore, ↓pAppend, ↓pPop, ↓poLst, ↓poDct, ↓pNewW, ↓pRng1, ↓pRng2, ↓pTry, ↓pTryAs, ↓oEq, ↓oNe, ↓oLen, ↓oSum, ↓oAll, ↓oAny, ↓oIsi, start0, List.map_cons, List.map_nil, List.length_cons, List.length_nil, List.cons_append, List.nil_append, List.getElem?_cons_zero, List.getElem?_cons_succ, List.set_cons_zero, List.set_cons_succ, List.replicate, D.bl.injEq, D.int.injEq, D.str.injEq, D.tup.injEq, D.lst.injEq, exists_eq_left', exists_eq_left, Option.some.injEq, Bool.false_eq_true, if_true, if_false, true_and, and_true, false_and, and_false, isi_int, isi_bool, isi_str, isi_tuple, isi_list, isiT_int, isiT_bool, isiT_str, isiT_tuple, isiT_list, Bool.not_true, Bool.not_false, dat_non, dat_bl, dat_int, dat_str, dat_tup, dat_lst, isInt_non, isInt_bl, isInt_int, isInt_str, isInt_tup, isInt_lst, isBool_non, isBool_bl, isBool_int, isBool_str, isBool_tup, isBool_lst, isStr_non, isStr_bl, isStr_int, isStr_str, isStr_tup, isStr_lst, isTup_non, isTup_bl, isTup_int, isTup_str, isTup_tup, isTup_lst, isLst_non, isLst_bl, isLst_int, isLst_str, isLst_tup, isLst_lst, Nat.reduceAdd, Nat.zero_add, sz_0, sz_1, sz_2, sz_3, sz_4, sz_5, sz_6, sz_7, sz_8, sz_9, sz_10, sz_11, sz_12, List.any_cons, List.any_nil, eqD_tup, eqD_str, eqD_int, eqDs_cons, eqDs_nil, eqDs_cn, eqDs_nc, Bool.or_false, Bool.and_true, at0, at1, at2, at3, at4, good_int, good_bl, good_nil, good_nilL, good_non, eqDs_nil_r, eqDs_nil_l, List.isEmpty_nil, List.isEmpty_cons, Bool.and_false, Bool.or_true, Bool.false_or, Bool.true_or, Bool.false_and, Bool.true_and, encB, wipS_mk, List.foldr_cons, List.foldr_nil, con_updW, ↓ixC_ownD, ↓oIx_tup, ↓oIx_lst, ↓oIx_str, ↓lenC_ownL, ↓lenC_ownD, ↓setC_ownD, putC_adr, Own_lst_inj, Con_own_inj, updW_upd, Nat.reduceSub, Nat.sub_self, ↓itD_lst, ↓itD_tup, ↓oInt_i, ↓oCmp_i, ↓oAdd_i, ↓oAdd_s, ↓oAdd_t, ↓oAdd_l, ↓oNeg_i, ↓o1I_i, ↓o2I_i, ↓oSl_t, ↓oSl_l, ↓oList_t, ↓oList_l, ↓oTuple_t, ↓oTuple_l, ↓oIn_t, ↓oIn_l, ↓oIsN_n, ↓ixC_ownLi, ↓setC_ownLi, ixN20, ixN21, ex_int1, ex_int2, ↓pSet_eq, ↓ixK_tup, ↓ixK_lst, ↓ixK_str, ↓ixK_dct, ↓lenK_tup, ↓lenK_lst, ↓lenK_str, ↓pSetO_eq, ↓pPar_eq, ↓kPar_mk, ↓pGet2, ↓pFrzO_eq, ↓kFrz_lst, ↓kFrz_dct, ↓pPairs_nil, ↓pPairs_cons, ↓poDisp, ↓getC_val, isDc_val, ↓poCat, ↓catD_l, ↓pVarV0, ↓pVarV1, ↓pVarV2, ↓pVarV3, ↓pVarV4, ↓pVarV5, ↓pVarV6, ↓pVarV7, ↓pVarV8, ↓pVarV9, ↓pVarL0, ↓pVarL1, ↓pVarL2, ↓pVarL3, ↓pVarL4, ↓pVarL5, ↓pVarL6, ↓pVarL7, ↓pVarL8, ↓pVarL9, ↓pVarD0, ↓pVarD1, ↓pVarD2, ↓pVarD3, ↓pVarD4, ↓pVarD5, ↓pVarD6, ↓pVarD7, ↓pVarD8, ↓pVarD9, ↓pkVarV0, ↓pkVarV1, ↓pkVarV2, ↓pkVarV3, ↓pkVarV4, ↓pkVarV5, ↓pkVarV6, ↓pkVarV7, ↓pkVarV8, ↓pkVarV9, ↓pkVarO0, ↓pkVarO1, ↓pkVarO2, ↓pkVarO3, ↓pkVarO4, ↓pkVarO5, ↓pkVarO6, ↓pkVarO7, ↓pkVarO8, ↓pkVarO9, ↓kSetN0, ↓kSetN1, ↓kSetN2, ↓kSetN3, ↓kSetN4, ↓kSetN5, ↓kSetN6, ↓kSetN7, ↓kSetN8, ↓kSetN9, ↓kSetO_N0, ↓kSetO_N1, ↓kSetO_N2, ↓kSetO_N3, ↓kSetO_N4, ↓kSetO_N5, ↓kSetO_N6, ↓kSetO_N7, ↓kSetO_N8, ↓kSetO_N9, ↓pgNameN0, ↓pgNameN1, ↓pgNameN2, ↓pgNameN3, ↓pgNameN4, ↓pgNameN5, ↓pgNameN6, ↓pgNameN7, ↓pgNameN8, ↓pgNameN9, ↓ixS0, ↓ixS1, ↓ixS2, ↓ixS3, ↓ixS4, ↓ixS5, ↓ixS6, ↓ixS7, ↓ixS8, ↓ixS9, ↓lenS0, ↓lenS1, ↓lenS2, ↓lenS3, ↓lenS4, ↓lenS5, ↓lenS6, ↓lenS7, ↓lenS8, ↓lenS9, ↓setS0, ↓setS1, ↓setS2, ↓setS3, ↓setS4, ↓setS5, ↓setS6, ↓setS7, ↓setS8, ↓setS9, ↓conS0, ↓conS1, ↓conS2, ↓conS3, ↓conS4, ↓conS5, ↓conS6, ↓conS7, ↓conS8, ↓conS9, ↓putS0, ↓putS1, ↓putS2, ↓putS3, ↓putS4, ↓putS5, ↓putS6, ↓putS7, ↓putS8, ↓putS9]
    refine ⟨a, _, rfl, by decide, by decide, src_upd (src_upd hs2 (Ne.symm (na p hp))) (Ne.symm (na p2 hp2')), fun d W3 h0 h11 d3 => ?_⟩
    have hs3 := d3.src
    have hw3 : Val W3 C_Loop p L := (dr_at d3 (na p hp)).trans ((updW_ne (Ne.symm n21)).trans (updW_self ..))
    have hw3' : Val W3 C_Loop p2 L := (dr_at d3 (na p2 hp2')).trans (updW_self ..)
    have hT3 : Tb W3 p_code p_change := ((hT2.upd (.inl hp)).upd (.inl hp2)).dr d3 (.inr (src_upd (src_upd hs2 (Ne.symm (na p hp))) (Ne.symm (na p2 hp2'))))
    walk_at "pls"
    refine ⟨by omega, ?_⟩
    refine forW_range (fun _ S => ∃ W M s8 s9, okL M = true ∧ Val W C_Loop p M ∧ Val W C_Loop p2 L ∧ Src W a ∧ Tb W p_code p_change ∧ S = ⟨[.val (.lst (xs.map D.int)), .val (.int (0 + k)), .val (.adr a), .val (encL M), .val (.adr p), .val (.adr p), .val (.adr p2), .val (encL L), s8, s9], W⟩) ?_ ?_ ⟨_, _, _, _, ok, hw3, hw3', hs3, hT3, rfl⟩
    · rintro S ⟨W, M, s8, s9, okM, hw, hw', hs, hT4, rfl⟩
      try simp only [↓pProp, ↓insW_val hw', ↓pC, ↓pOp, ↓pUn, ↓pSl, ↓pPart, ↓pNil, ↓pCons, ↓pTup, ↓pLst, ↓pCallB, ↓pTest, ↓pNot, ↓pAnd, ↓pOr, ↓pAndV, ↓pOrV, ↓pNotV, ↓pIf, ↓pNext, ↓pSeq, ↓pBreak, ↓pCont, ↓pDrop, ↓pRet, ↓pRetN, ↓pIfS, ↓pgNil, ↓pgCons, ↓pgTup, ↓pAsg, ↓pRaise, ↓pCall, ↓pIter, ↓pFor, ↓pLc, ↓pYes, ↓pkOf, ↓pIxK, ↓pTabG, ↓pLenK, ↓pChain, ↓pStore, ↓pAppend, ↓pPop, ↓poLst, ↓poDct, ↓pNewW, ↓pRng1, ↓pRng2, ↓pTry, ↓pTryAs, ↓oEq, ↓oNe, ↓oLen, ↓oSum, ↓oAll, ↓oAny, ↓oIsi, start0, List.map_cons, List.map_nil, List.length_cons, List.length_nil, List.cons_append, List.nil_append, List.getElem?_cons_zero, List.getElem?_cons_succ, List.set_cons_zero, List.set_cons_succ, List.replicate, D.bl.injEq, D.int.injEq, D.str.injEq, D.tup.injEq, D.lst.injEq, exists_eq_left', exists_eq_left, Option.some.injEq, Bool.false_eq_true, if_true, if_false, true_and, and_true, false_and, and_false, isi_int, isi_bool, isi_str, isi_tuple, isi_list, isiT_int, isiT_bool, isiT_str, isiT_tuple, isiT_list, Bool.not_true, Bool.not_false, dat_non, dat_bl, dat_int, dat_str, dat_tup, dat_lst, isInt_non, isInt_bl, isInt_int, isInt_str, isInt_tup, isInt_lst, isBool_non, isBool_bl, isBool_int, isBool_str, isBool_tup, isBool_lst, isStr_non, isStr_bl, isStr_int, isStr_str, isStr_tup, isStr_lst, isTup_non, isTup_bl, isTup_int, isTup_str, isTup_tup, isTup_lst, isLst_non, isLst_bl, isLst_int, isLst_str, isLst_tup, isLst_lst, Nat.reduceAdd, Nat.zero_add, sz_0, sz_1, sz_2, sz_3, sz_4, sz_5, sz_6, sz_7, sz_8, sz_9, sz_10, sz_11, sz_12, List.any_cons, List.any_nil, eqD_tup, eqD_str, eqD_int, eqDs_cons, eqDs_nil, eqDs_cn, eqDs_nc, Bool.or_false, Bool.and_true, at0, at1, at2, at3, at4, good_int, good_bl, good_nil, good_nilL, good_non, eqDs_nil_r, eqDs_nil_l, List.isEmpty_nil, List.isEmpty_cons, Bool.and_false, Bool.or_true, Bool.false_or, Bool.true_or, Bool.false_and, Bool.true_and, encB, wipS_mk, List.foldr_cons, List.foldr_nil, con_updW, ↓ixC_ownD, ↓oIx_tup, ↓oIx_lst, ↓oIx_str, ↓lenC_ownL, ↓lenC_ownD, ↓setC_ownD, putC_adr, Own_lst_inj, Con_own_inj, updW_upd, Nat.reduceSub, Nat.sub_self, ↓itD_lst, ↓itD_tup, ↓oInt_i, ↓oCmp_i, ↓oAdd_i, ↓oAdd_s, ↓oAdd_t, ↓oAdd_l, ↓oNeg_i, ↓o1I_i, ↓o2I_i, ↓oSl_t, ↓oSl_l, ↓oList_t, ↓oList_l, ↓oTuple_t, ↓oTuple_l, ↓oIn_t, ↓oIn_l, ↓oIsN_n, ↓ixC_ownLi, ↓setC_ownLi, ixN20, ixN21, ex_int1, ex_int2, ↓pSet_eq, ↓ixK_tup, ↓ixK_lst, ↓ixK_str, ↓ixK_dct, ↓lenK_tup, ↓lenK_lst, ↓lenK_str, ↓pSetO_eq, ↓pPar_eq, ↓kPar_mk, ↓pGet2, ↓pFrzO_eq, ↓kFrz_lst, ↓kFrz_dct, ↓pPairs_nil, ↓pPairs_cons, ↓poDisp, ↓getC_val, isDc_val, ↓poCat, ↓catD_l, ↓pVarV0, ↓pVarV1, ↓pVarV2, ↓pVarV3, ↓pVarV4, ↓pVarV5, ↓pVarV6, ↓pVarV7, ↓pVarV8, ↓pVarV9, ↓pVarL0, ↓pVarL1, ↓pVarL2, ↓pVarL3, ↓pVarL4, ↓pVarL5, ↓pVarL6, ↓pVarL7, ↓pVarL8, ↓pVarL9, ↓pVarD0, ↓pVarD1, ↓pVarD2, ↓pVarD3, ↓pVarD4, ↓pVarD5, ↓pVarD6, ↓pVarD7, ↓pVarD8, ↓pVarD9, ↓pkVarV0, ↓pkVarV1, ↓pkVarV2, ↓pkVarV3, ↓pkVarV4, ↓pkVarV5, ↓pkVarV6, ↓pkVarV7, ↓pkVarV8, ↓pkVarV9, ↓pkVarO0, ↓pkVarO1, ↓pkVarO2, ↓pkVarO3, ↓pkVarO4, ↓pkVarO5, ↓pkVarO6, ↓pkVarO7, ↓pkVarO8, ↓pkVarO9, ↓kSetN0, ↓kSetN1, ↓kSetN2, ↓kSetN3, ↓kSetN4, ↓kSetN5, ↓kSetN6, ↓kSetN7, ↓kSetN8, ↓kSetN9, ↓kSetO_N0, ↓kSetO_N1, ↓kSetO_N2, ↓kSetO_N3, ↓kSetO_N4, ↓kSetO_N5, ↓kSetO_N6, ↓kSetO_N7, ↓kSetO_N8, ↓kSetO_N9, ↓pgNameN0, ↓pgNameN1, ↓pgNameN2, ↓pgNameN3, ↓pgNameN4, ↓pgNameN5, ↓pgNameN6, ↓pgNameN7, ↓pgNameN8, ↓pgNameN9, ↓ixS0, ↓ixS1, ↓ixS2, ↓ixS3, ↓ixS4, ↓ixS5, ↓ixS6, ↓ixS7, ↓ixS8, ↓ixS9, ↓lenS0, ↓lenS1, ↓lenS2, ↓lenS3, ↓lenS4, ↓lenS5, ↓lenS6, ↓lenS7, ↓lenS8, ↓lenS9, ↓setS0, ↓setS1, ↓setS2, ↓setS3, ↓setS4, ↓setS5, ↓setS6, ↓setS7, ↓setS8, ↓setS9, ↓conS0, ↓conS1, ↓conS2, ↓conS3, ↓conS4, ↓conS5, ↓conS6, ↓conS7, ↓conS8, ↓conS9, ↓putS0, ↓putS1, ↓putS2, ↓putS3, ↓putS4, ↓putS5, ↓putS6, ↓putS7, ↓putS8, ↓putS9]
      have gL := good_L ok
      have gM := good_L okM
      refine ⟨p2, L, rfl, hw', gL, gL, ?_⟩
      rw [eqD_refl _ (good_plain gL)]
      try simp only [↓pCmpOwn, ↓pC, ↓pOp, ↓pUn, ↓pSl, ↓pPart, ↓pNil, ↓pCons, ↓pTup, ↓pLst, ↓pCallB, ↓pTest, ↓pNot, ↓pAnd, ↓pOr, ↓pAndV, ↓pOrV, ↓pNotV, ↓pIf, ↓pNext, ↓pSeq, ↓pBreak, ↓pCont, ↓pDrop, ↓pRet, ↓pRetN, ↓pIfS, ↓pgNil, ↓pgCons, ↓pgTup, ↓pAsg, ↓pRaise, ↓pCall, ↓pIter, ↓pFor, ↓pLc, ↓pYes, ↓pkOf, ↓pIxK, ↓pTabG, ↓pLenK, ↓pChain, ↓pStore, ↓pAppend, ↓pPop, ↓poLst, ↓poDct, ↓pNewW, ↓pRng1, ↓pRng2, ↓pTry, ↓pTryAs, ↓oEq, ↓oNe, ↓oLen, ↓oSum, ↓oAll, ↓oAny, ↓oIsi, start0, List.map_cons, List.map_nil, List.length_cons, List.length_nil, List.cons_append, List.nil_append, List.getElem?_cons_zero, List.getElem?_cons_succ, List.set_cons_zero, List.set_cons_succ, List.replicate, D.bl.injEq, D.int.injEq, D.str.injEq, D.tup.injEq, D.lst.injEq, exists_eq_left', exists_eq_left, Option.some.injEq, Bool.false_eq_true, if_true, if_false, true_and, and_true, false_and, and_false, isi_int, isi_bool, isi_str, isi_tuple, isi_list, isiT_int, isiT_bool, isiT_str, isiT_tuple, isiT_list, Bool.not_true, Bool.not_false, dat_non, dat_bl, dat_int, dat_str, dat_tup, dat_lst, isInt_non, isInt_bl, isInt_int, isInt_str, isInt_tup, isInt_lst, isBool_non, isBool_bl, isBool_int, isBool_str, isBool_tup, isBool_lst, isStr_non, isStr_bl, isStr_int, isStr_str, isStr_tup, isStr_lst, isTup_non, isTup_bl, isTup_int, isTup_str, isTup_tup, isTup_lst, isLst_non, isLst_bl, isLst_int, isLst_str, isLst_tup, isLst_lst, Nat.reduceAdd, Nat.zero_add, sz_0, sz_1, sz_2, sz_3, sz_4, sz_5, sz_6, sz_7, sz_8, sz_9, sz_10, sz_11, sz_12, List.any_cons, List.any_nil, eqD_tup, eqD_str, eqD_int, eqDs_cons, eqDs_nil, eqDs_cn, eqDs_nc, Bool.or_false, Bool.and_true, at0, at1, at2, at3, at4, good_int, good_bl, good_nil, good_nilL, good_non, eqDs_nil_r, eqDs_nil_l, List.isEmpty_nil, List.isEmpty_cons, Bool.and_false, Bool.or_true, Bool.false_or, Bool.true_or, Bool.false_and, Bool.true_and, encB, wipS_mk, List.foldr_cons, List.foldr_nil, con_updW, ↓ixC_ownD, ↓oIx_tup, ↓oIx_lst, ↓oIx_str, ↓lenC_ownL, ↓lenC_ownD, ↓setC_ownD, putC_adr, Own_lst_inj, Con_own_inj, updW_upd, Nat.reduceSub, Nat.sub_self, ↓itD_lst, ↓itD_tup, ↓oInt_i, ↓oCmp_i, ↓oAdd_i, ↓oAdd_s, ↓oAdd_t, ↓oAdd_l, ↓oNeg_i, ↓o1I_i, ↓o2I_i, ↓oSl_t, ↓oSl_l, ↓oList_t, ↓oList_l, ↓oTuple_t, ↓oTuple_l, ↓oIn_t, ↓oIn_l, ↓oIsN_n, ↓ixC_ownLi, ↓setC_ownLi, ixN20, ixN21, ex_int1, ex_int2, ↓pSet_eq, ↓ixK_tup, ↓ixK_lst, ↓ixK_str, ↓ixK_dct, ↓lenK_tup, ↓lenK_lst, ↓lenK_str, ↓pSetO_eq, ↓pPar_eq, ↓kPar_mk, ↓pGet2, ↓pFrzO_eq, ↓kFrz_lst, ↓kFrz_dct, ↓pPairs_nil, ↓pPairs_cons, ↓poDisp, ↓getC_val, isDc_val, ↓poCat, ↓catD_l, ↓pVarV0, ↓pVarV1, ↓pVarV2, ↓pVarV3, ↓pVarV4, ↓pVarV5, ↓pVarV6, ↓pVarV7, ↓pVarV8, ↓pVarV9, ↓pVarL0, ↓pVarL1, ↓pVarL2, ↓pVarL3, ↓pVarL4, ↓pVarL5, ↓pVarL6, ↓pVarL7, ↓pVarL8, ↓pVarL9, ↓pVarD0, ↓pVarD1, ↓pVarD2, ↓pVarD3, ↓pVarD4, ↓pVarD5, ↓pVarD6, ↓pVarD7, ↓pVarD8, ↓pVarD9, ↓pkVarV0, ↓pkVarV1, ↓pkVarV2, ↓pkVarV3, ↓pkVarV4, ↓pkVarV5, ↓pkVarV6, ↓pkVarV7, ↓pkVarV8, ↓pkVarV9, ↓pkVarO0, ↓pkVarO1, ↓pkVarO2, ↓pkVarO3, ↓pkVarO4, ↓pkVarO5, ↓pkVarO6, ↓pkVarO7, ↓pkVarO8, ↓pkVarO9, ↓kSetN0, ↓kSetN1, ↓kSetN2, ↓kSetN3, ↓kSetN4, ↓kSetN5, ↓kSetN6, ↓kSetN7, ↓kSetN8, ↓kSetN9, ↓kSetO_N0, ↓kSetO_N1, ↓kSetO_N2, ↓kSetO_N3, ↓kSetO_N4, ↓kSetO_N5, ↓kSetO_N6, ↓kSetO_N7, ↓kSetO_N8, ↓kSetO_N9, ↓pgNameN0, ↓pgNameN1, ↓pgNameN2, ↓pgNameN3, ↓pgNameN4, ↓pgNameN5, ↓pgNameN6, ↓pgNameN7, ↓pgNameN8, ↓pgNameN9, ↓ixS0, ↓ixS1, ↓ixS2, ↓ixS3, ↓ixS4, ↓ixS5, ↓ixS6, ↓ixS7, ↓ixS8, ↓ixS9, ↓lenS0, ↓lenS1, ↓lenS2, ↓lenS3, ↓lenS4, ↓lenS5, ↓lenS6, ↓lenS7, ↓lenS8, ↓lenS9, ↓setS0, ↓setS1, ↓setS2, ↓setS3, ↓setS4, ↓setS5, ↓setS6, ↓setS7, ↓setS8, ↓setS9, ↓conS0, ↓conS1, ↓conS2, ↓conS3, ↓conS4, ↓conS5, ↓conS6, ↓conS7, ↓conS8, ↓conS9, ↓putS0, ↓putS1, ↓putS2, ↓putS3, ↓putS4, ↓putS5, ↓putS6, ↓putS7, ↓putS8, ↓putS9]
      refine ⟨L, rfl, ok, fun p3 hp3 => ?_⟩
      have n3 : ∀ b C ns ds, W b = some (.ins C ns ds) → b ≠ p3 := fun b C ns ds e z => by
        subst z
        rw [hp3] at e; cases e
      have v1 : Val (updW W p3 (.ins C_Loop ["base"] [encL L])) C_Loop p2 L := (updW_ne (n3 _ _ _ _ hw')).trans hw'
      have v2 : Val (updW W p3 (.ins C_Loop ["base"] [encL L])) C_Loop p3 L := updW_val
      have v3 : Val (updW W p3 (.ins C_Loop ["base"] [encL L])) C_Loop p M := (updW_ne (n3 _ _ _ _ hw)).trans hw
      have hT6 : Tb (updW W p3 (.ins C_Loop ["base"] [encL L])) p_code p_change := hT4.upd (.inl hp3)
      try simp only [↓insW_val v1, ↓insW_val v2, ↓pC, ↓pOp, ↓pUn, ↓pSl, ↓pPart, ↓pNil, ↓pCons, ↓pTup, ↓pLst, ↓pCallB, ↓pTest, ↓pNot, ↓pAnd, ↓pOr, ↓pAndV, ↓pOrV, ↓pNotV, ↓pIf, ↓pNext, ↓pSeq, ↓pBreak, ↓pCont, ↓pDrop, ↓pRet, ↓pRetN, ↓pIfS, ↓pgNil, ↓pgCons, ↓pgTup, ↓pAsg, ↓pRaise, ↓pCall, ↓pIter, ↓pFor, ↓pLc, ↓pYes, ↓pkOf, ↓pIxK, ↓pTabG, ↓pLenK, ↓pChain, ↓pStore, ↓pAppend, ↓pPop, ↓poLst, ↓poDct, ↓pNewW, ↓pRng1, ↓pRng2, ↓pTry, ↓pTryAs, ↓oEq, ↓oNe, ↓oLen, ↓oSum, ↓oAll, ↓oAny, ↓oIsi, start0, List.map_cons, List.map_nil, List.length_cons, List.length_nil, List.cons_append, List.nil_append, List.getElem?_cons_zero, List.getElem?_cons_succ, List.set_cons_zero, List.set_cons_succ, List.replicate, D.bl.injEq, D.int.injEq, D.str.injEq, D.tup.injEq, D.lst.injEq, exists_eq_left', exists_eq_left, Option.some.injEq, Bool.false_eq_true, if_true, if_false, true_and, and_true, false_and, and_false, isi_int, isi_bool, isi_str, isi_tuple, isi_list, isiT_int, isiT_bool, isiT_str, isiT_tuple, isiT_list, Bool.not_true, Bool.not_false, dat_non, dat_bl, dat_int, dat_str, dat_tup, dat_lst, isInt_non, isInt_bl, isInt_int, isInt_str, isInt_tup, isInt_lst, isBool_non, isBool_bl, isBool_int, isBool_str, isBool_tup, isBool_lst, isStr_non, isStr_bl, isStr_int, isStr_str, isStr_tup, isStr_lst, isTup_non, isTup_bl, isTup_int, isTup_str, isTup_tup, isTup_lst, isLst_non, isLst_bl, isLst_int, isLst_str, isLst_tup, isLst_lst, Nat.reduceAdd, Nat.zero_add, sz_0, sz_1, sz_2, sz_3, sz_4, sz_5, sz_6, sz_7, sz_8, sz_9, sz_10, sz_11, sz_12, List.any_cons, List.any_nil, eqD_tup, eqD_str, eqD_int, eqDs_cons, eqDs_nil, eqDs_cn, eqDs_nc, Bool.or_false, Bool.and_true, at0, at1, at2, at3, at4, good_int, good_bl, good_nil, good_nilL, good_non, eqDs_nil_r, eqDs_nil_l, List.isEmpty_nil, List.isEmpty_cons, Bool.and_false, Bool.or_true, Bool.false_or, Bool.true_or, Bool.false_and, Bool.true_and, encB, wipS_mk, List.foldr_cons, List.foldr_nil, con_updW, ↓ixC_ownD, ↓oIx_tup, ↓oIx_lst, ↓oIx_str, ↓lenC_ownL, ↓lenC_ownD, ↓setC_ownD, putC_adr, Own_lst_inj, Con_own_inj, updW_upd, Nat.reduceSub, Nat.sub_self, ↓itD_lst, ↓itD_tup, ↓oInt_i, ↓oCmp_i, ↓oAdd_i, ↓oAdd_s, ↓oAdd_t, ↓oAdd_l, ↓oNeg_i, ↓o1I_i, ↓o2I_i, ↓oSl_t, ↓oSl_l, ↓oList_t, ↓oList_l, ↓oTuple_t, ↓oTuple_l, ↓oIn_t, ↓oIn_l, ↓oIsN_n, ↓ixC_ownLi, ↓setC_ownLi, ixN20, ixN21, ex_int1, ex_int2, ↓pSet_eq, ↓ixK_tup, ↓ixK_lst, ↓ixK_str, ↓ixK_dct, ↓lenK_tup, ↓lenK_lst, ↓lenK_str, ↓pSetO_eq, ↓pPar_eq, ↓kPar_mk, ↓pGet2, ↓pFrzO_eq, ↓kFrz_lst, ↓kFrz_dct, ↓pPairs_nil, ↓pPairs_cons, ↓poDisp, ↓getC_val, isDc_val, ↓poCat, ↓catD_l, ↓pVarV0, ↓pVarV1, ↓pVarV2, ↓pVarV3, ↓pVarV4, ↓pVarV5, ↓pVarV6, ↓pVarV7, ↓pVarV8, ↓pVarV9, ↓pVarL0, ↓pVarL1, ↓pVarL2, ↓pVarL3, ↓pVarL4, ↓pVarL5, ↓pVarL6, ↓pVarL7, ↓pVarL8, ↓pVarL9, ↓pVarD0, ↓pVarD1, ↓pVarD2, ↓pVarD3, ↓pVarD4, ↓pVarD5, ↓pVarD6, ↓pVarD7, ↓pVarD8, ↓pVarD9, ↓pkVarV0, ↓pkVarV1, ↓pkVarV2, ↓pkVarV3, ↓pkVarV4, ↓pkVarV5, ↓pkVarV6, ↓pkVarV7, ↓pkVarV8, ↓pkVarV9, ↓pkVarO0, ↓pkVarO1, ↓pkVarO2, ↓pkVarO3, ↓pkVarO4, ↓pkVarO5, ↓pkVarO6, ↓pkVarO7, ↓pkVarO8, ↓pkVarO9, ↓kSetN0, ↓kSetN1, ↓kSetN2, ↓kSetN3, ↓kSetN4, ↓kSetN5, ↓kSetN6, ↓kSetN7, ↓kSetN8, ↓kSetN9, ↓kSetO_N0, ↓kSetO_N1, ↓kSetO_N2, ↓kSetO_N3, ↓kSetO_N4, ↓kSetO_N5, ↓kSetO_N6, ↓kSetO_N7, ↓kSetO_N8, ↓kSetO_N9, ↓pgNameN0, ↓pgNameN1, ↓pgNameN2, ↓pgNameN3, ↓pgNameN4, ↓pgNameN5, ↓pgNameN6, ↓pgNameN7, ↓pgNameN8, ↓pgNameN9, ↓ixS0, ↓ixS1, ↓ixS2, ↓ixS3, ↓ixS4, ↓ixS5, ↓ixS6, ↓ixS7, ↓ixS8, ↓ixS9, ↓lenS0, ↓lenS1, ↓lenS2, ↓lenS3, ↓lenS4, ↓lenS5, ↓lenS6, ↓lenS7, ↓lenS8, ↓lenS9, ↓setS0, ↓setS1, ↓setS2, ↓setS3, ↓setS4, ↓setS5, ↓setS6, ↓setS7, ↓setS8, ↓setS9, ↓conS0, ↓conS1, ↓conS2, ↓conS3, ↓conS4, ↓conS5, ↓conS6, ↓conS7, ↓conS8, ↓conS9, ↓putS0, ↓putS1, ↓putS2, ↓putS3, ↓putS4, ↓putS5, ↓putS6, ↓putS7, ↓putS8, ↓putS9]
      refine ⟨p2, p3, L, L, rfl, ok, ok, v1, v2, ?_⟩
      generalize updW W p3 (.ins C_Loop ["base"] [encL L]) = W6 at v3 hT6
      rw [eqD_refl _ (good_plain gL)]
      try simp only [↓pCmpOwn, ↓pC, ↓pOp, ↓pUn, ↓pSl, ↓pPart, ↓pNil, ↓pCons, ↓pTup, ↓pLst, ↓pCallB, ↓pTest, ↓pNot, ↓pAnd, ↓pOr, ↓pAndV, ↓pOrV, ↓pNotV, ↓pIf, ↓pNext, ↓pSeq, ↓pBreak, ↓pCont, ↓pDrop, ↓pRet, ↓pRetN, ↓pIfS, ↓pgNil, ↓pgCons, ↓pgTup, ↓pAsg, ↓pRaise, ↓pCall, ↓pIter, ↓pFor, ↓pLc, ↓pYes, ↓pkOf, ↓pIxK, ↓pTabG, ↓pLenK, ↓pChain, ↓pStore, ↓pAppend, ↓pPop, ↓poLst, ↓poDct, ↓pNewW, ↓pRng1, ↓pRng2, ↓pTry, ↓pTryAs, ↓oEq, ↓oNe, ↓oLen, ↓oSum, ↓oAll, ↓oAny, ↓oIsi, start0, List.map_cons, List.map_nil, List.length_cons, List.length_nil, List.cons_append, List.nil_append, List.getElem?_cons_zero, List.getElem?_cons_succ, List.set_cons_zero, List.set_cons_succ, List.replicate, D.bl.injEq, D.int.injEq, D.str.injEq, D.tup.injEq, D.lst.injEq, exists_eq_left', exists_eq_left, Option.some.injEq, Bool.false_eq_true, if_true, if_false, true_and, and_true, false_and, and_false, isi_int, isi_bool, isi_str, isi_tuple, isi_list, isiT_int, isiT_bool, isiT_str, isiT_tuple, isiT_list, Bool.not_true, Bool.not_false, dat_non, dat_bl, dat_int, dat_str, dat_tup, dat_lst, isInt_non, isInt_bl, isInt_int, isInt_str, isInt_tup, isInt_lst, isBool_non, isBool_bl, isBool_int, isBool_str, isBool_tup, isBool_lst, isStr_non, isStr_bl, isStr_int, isStr_str, isStr_tup, isStr_lst, isTup_non, isTup_bl, isTup_int, isTup_str, isTup_tup, isTup_lst, isLst_non, isLst_bl, isLst_int, isLst_str, isLst_tup, isLst_lst, Nat.reduceAdd, Nat.zero_add, sz_0, sz_1, sz_2, sz_3, sz_4, sz_5, sz_6, sz_7, sz_8, sz_9, sz_10, sz_11, sz_12, List.any_cons, List.any_nil, eqD_tup, eqD_str, eqD_int, eqDs_cons, eqDs_nil, eqDs_cn, eqDs_nc, Bool.or_false, Bool.and_true, at0, at1, at2, at3, at4, good_int, good_bl, good_nil, good_nilL, good_non, eqDs_nil_r, eqDs_nil_l, List.isEmpty_nil, List.isEmpty_cons, Bool.and_false, Bool.or_true, Bool.false_or, Bool.true_or, Bool.false_and, Bool.true_and, encB, wipS_mk, List.foldr_cons, List.foldr_nil, con_updW, ↓ixC_ownD, ↓oIx_tup, ↓oIx_lst, ↓oIx_str, ↓lenC_ownL, ↓lenC_ownD, ↓setC_ownD, putC_adr, Own_lst_inj, Con_own_inj, updW_upd, Nat.reduceSub, Nat.sub_self, ↓itD_lst, ↓itD_tup, ↓oInt_i, ↓oCmp_i, ↓oAdd_i, ↓oAdd_s, ↓oAdd_t, ↓oAdd_l, ↓oNeg_i, ↓o1I_i, ↓o2I_i, ↓oSl_t, ↓oSl_l, ↓oList_t, ↓oList_l, ↓oTuple_t, ↓oTuple_l, ↓oIn_t, ↓oIn_l, ↓oIsN_n, ↓ixC_ownLi, ↓setC_ownLi, ixN20, ixN21, ex_int1, ex_int2, ↓pSet_eq, ↓ixK_tup, ↓ixK_lst, ↓ixK_str, ↓ixK_dct, ↓lenK_tup, ↓lenK_lst, ↓lenK_str, ↓pSetO_eq, ↓pPar_eq, ↓kPar_mk, ↓pGet2, ↓pFrzO_eq, ↓kFrz_lst, ↓kFrz_dct, ↓pPairs_nil, ↓pPairs_cons, ↓poDisp, ↓getC_val, isDc_val, ↓poCat, ↓catD_l, ↓pVarV0, ↓pVarV1, ↓pVarV2, ↓pVarV3, ↓pVarV4, ↓pVarV5, ↓pVarV6, ↓pVarV7, ↓pVarV8, ↓pVarV9, ↓pVarL0, ↓pVarL1, ↓pVarL2, ↓pVarL3, ↓pVarL4, ↓pVarL5, ↓pVarL6, ↓pVarL7, ↓pVarL8, ↓pVarL9, ↓pVarD0, ↓pVarD1, ↓pVarD2, ↓pVarD3, ↓pVarD4, ↓pVarD5, ↓pVarD6, ↓pVarD7, ↓pVarD8, ↓pVarD9, ↓pkVarV0, ↓pkVarV1, ↓pkVarV2, ↓pkVarV3, ↓pkVarV4, ↓pkVarV5, ↓pkVarV6, ↓pkVarV7, ↓pkVarV8, ↓pkVarV9, ↓pkVarO0, ↓pkVarO1, ↓pkVarO2, ↓pkVarO3, ↓pkVarO4, ↓pkVarO5, ↓pkVarO6, ↓pkVarO7, ↓pkVarO8, ↓pkVarO9, ↓kSetN0, ↓kSetN1, ↓kSetN2, ↓kSetN3, ↓kSetN4, ↓kSetN5, ↓kSetN6, ↓kSetN7, ↓kSetN8, ↓kSetN9, ↓kSetO_N0, ↓kSetO_N1, ↓kSetO_N2, ↓kSetO_N3, ↓kSetO_N4, ↓kSetO_N5, ↓kSetO_N6, ↓kSetO_N7, ↓kSetO_N8, ↓kSetO_N9, ↓pgNameN0, ↓pgNameN1, ↓pgNameN2, ↓pgNameN3, ↓pgNameN4, ↓pgNameN5, ↓pgNameN6, ↓pgNameN7, ↓pgNameN8, ↓pgNameN9, ↓ixS0, ↓ixS1, ↓ixS2, ↓ixS3, ↓ixS4, ↓ixS5, ↓ixS6, ↓ixS7, ↓ixS8, ↓ixS9, ↓lenS0, ↓lenS1, ↓lenS2, ↓lenS3, ↓lenS4, ↓lenS5, ↓lenS6, ↓lenS7, ↓lenS8, ↓lenS9, ↓setS0, ↓setS1, ↓setS2, ↓setS3, ↓setS4, ↓setS5, ↓setS6, ↓setS7, ↓setS8, ↓setS9, ↓conS0, ↓conS1, ↓conS2, ↓conS3, ↓conS4, ↓conS5, ↓conS6, ↓conS7, ↓conS8, ↓conS9, ↓putS0, ↓putS1, ↓putS2, ↓putS3, ↓putS4, ↓putS5, ↓putS6, ↓putS7, ↓putS8, ↓putS9]
      refine ⟨M, rfl, okM, fun p4 hp4 => ?_⟩
      have n4 : ∀ b C ns ds, W6 b = some (.ins C ns ds) → b ≠ p4 := fun b C ns ds e z => by
        subst z
        rw [hp4] at e; cases e
      have v4 : Val (updW W6 p4 (.ins C_Loop ["base"] [encL M])) C_Loop p M := (updW_ne (n4 _ _ _ _ v3)).trans v3
      have v5 : Val (updW W6 p4 (.ins C_Loop ["base"] [encL M])) C_Loop p4 M := updW_val
      have hT7 : Tb (updW W6 p4 (.ins C_Loop ["base"] [encL M])) p_code p_change := hT6.upd (.inl hp4)
      try simp only [↓insW_val v4, ↓insW_val v5, ↓pC, ↓pOp, ↓pUn, ↓pSl, ↓pPart, ↓pNil, ↓pCons, ↓pTup, ↓pLst, ↓pCallB, ↓pTest, ↓pNot, ↓pAnd, ↓pOr, ↓pAndV, ↓pOrV, ↓pNotV, ↓pIf, ↓pNext, ↓pSeq, ↓pBreak, ↓pCont, ↓pDrop, ↓pRet, ↓pRetN, ↓pIfS, ↓pgNil, ↓pgCons, ↓pgTup, ↓pAsg, ↓pRaise, ↓pCall, ↓pIter, ↓pFor, ↓pLc, ↓pYes, ↓pkOf, ↓pIxK, ↓pTabG, ↓pLenK, ↓pChain, ↓pStore, ↓pAppend, ↓pPop, ↓poLst, ↓poDct, ↓pNewW, ↓pRng1, ↓pRng2, ↓pTry, ↓pTryAs, ↓oEq, ↓oNe, ↓oLen, ↓oSum, ↓oAll, ↓oAny, ↓oIsi, start0, List.map_cons, List.map_nil, List.length_cons, List.length_nil, List.cons_append, List.nil_append, List.getElem?_cons_zero, List.getElem?_cons_succ, List.set_cons_zero, List.set_cons_succ, List.replicate, D.bl.injEq, D.int.injEq, D.str.injEq, D.tup.injEq, D.lst.injEq, exists_eq_left', exists_eq_left, Option.some.injEq, Bool.false_eq_true, if_true, if_false, true_and, and_true, false_and, and_false, isi_int, isi_bool, isi_str, isi_tuple, isi_list, isiT_int, isiT_bool, isiT_str, isiT_tuple, isiT_list, Bool.not_true, Bool.not_false, dat_non, dat_bl, dat_int, dat_str, dat_tup, dat_lst, isInt_non, isInt_bl, isInt_int, isInt_str, isInt_tup, isInt_lst, isBool_non, isBool_bl, isBool_int, isBool_str, isBool_tup, isBool_lst, isStr_non, isStr_bl, isStr_int, isStr_str, isStr_tup, isStr_lst, isTup_non, isTup_bl, isTup_int, isTup_str, isTup_tup, isTup_lst, isLst_non, isLst_bl, isLst_int, isLst_str, isLst_tup, isLst_lst, Nat.reduceAdd, Nat.zero_add, sz_0, sz_1, sz_2, sz_3, sz_4, sz_5, sz_6, sz_7, sz_8, sz_9, sz_10, sz_11, sz_12, List.any_cons, List.any_nil, eqD_tup, eqD_str, eqD_int, eqDs_cons, eqDs_nil, eqDs_cn, eqDs_nc, Bool.or_false, Bool.and_true, at0, at1, at2, at3, at4, good_int, good_bl, good_nil, good_nilL, good_non, eqDs_nil_r, eqDs_nil_l, List.isEmpty_nil, List.isEmpty_cons, Bool.and_false, Bool.or_true, Bool.false_or, Bool.true_or, Bool.false_and, Bool.true_and, encB, wipS_mk, List.foldr_cons, List.foldr_nil, con_updW, ↓ixC_ownD, ↓oIx_tup, ↓oIx_lst, ↓oIx_str, ↓lenC_ownL, ↓lenC_ownD, ↓setC_ownD, putC_adr, Own_lst_inj, Con_own_inj, updW_upd, Nat.reduceSub, Nat.sub_self, ↓itD_lst, ↓itD_tup, ↓oInt_i, ↓oCmp_i, ↓oAdd_i, ↓oAdd_s, ↓oAdd_t, ↓oAdd_l, ↓oNeg_i, ↓o1I_i, ↓o2I_i, ↓oSl_t, ↓oSl_l, ↓oList_t, ↓oList_l, ↓oTuple_t, ↓oTuple_l, ↓oIn_t, ↓oIn_l, ↓oIsN_n, ↓ixC_ownLi, ↓setC_ownLi, ixN20, ixN21, ex_int1, ex_int2, ↓pSet_eq, ↓ixK_tup, ↓ixK_lst, ↓ixK_str, ↓ixK_dct, ↓lenK_tup, ↓lenK_lst, ↓lenK_str, ↓pSetO_eq, ↓pPar_eq, ↓kPar_mk, ↓pGet2, ↓pFrzO_eq, ↓kFrz_lst, ↓kFrz_dct, ↓pPairs_nil, ↓pPairs_cons, ↓poDisp, ↓getC_val, isDc_val, ↓poCat, ↓catD_l, ↓pVarV0, ↓pVarV1, ↓pVarV2, ↓pVarV3, ↓pVarV4, ↓pVarV5, ↓pVarV6, ↓pVarV7, ↓pVarV8, ↓pVarV9, ↓pVarL0, ↓pVarL1, ↓pVarL2, ↓pVarL3, ↓pVarL4, ↓pVarL5, ↓pVarL6, ↓pVarL7, ↓pVarL8, ↓pVarL9, ↓pVarD0, ↓pVarD1, ↓pVarD2, ↓pVarD3, ↓pVarD4, ↓pVarD5, ↓pVarD6, ↓pVarD7, ↓pVarD8, ↓pVarD9, ↓pkVarV0, ↓pkVarV1, ↓pkVarV2, ↓pkVarV3, ↓pkVarV4, ↓pkVarV5, ↓pkVarV6, ↓pkVarV7, ↓pkVarV8, ↓pkVarV9, ↓pkVarO0, ↓pkVarO1, ↓pkVarO2, ↓pkVarO3, ↓pkVarO4, ↓pkVarO5, ↓pkVarO6, ↓pkVarO7, ↓pkVarO8, ↓pkVarO9, ↓kSetN0, ↓kSetN1, ↓kSetN2, ↓kSetN3, ↓kSetN4, ↓kSetN5, ↓kSetN6, ↓kSetN7, ↓kSetN8, ↓kSetN9, ↓kSetO_N0, ↓kSetO_N1, ↓kSetO_N2, ↓kSetO_N3, ↓kSetO_N4, ↓kSetO_N5, ↓kSetO_N6, ↓kSetO_N7, ↓kSetO_N8, ↓kSetO_N9, ↓pgNameN0, ↓pgNameN1, ↓pgNameN2, ↓pgNameN3, ↓pgNameN4, ↓pgNameN5, ↓pgNameN6, ↓pgNameN7, ↓pgNameN8, ↓pgNameN9, ↓ixS0, ↓ixS1, ↓ixS2, ↓ixS3, ↓ixS4, ↓ixS5, ↓ixS6, ↓ixS7, ↓ixS8, ↓ixS9, ↓lenS0, ↓lenS1, ↓lenS2, ↓lenS3, ↓lenS4, ↓lenS5, ↓lenS6, ↓lenS7, ↓lenS8, ↓lenS9, ↓setS0, ↓setS1, ↓setS2, ↓setS3, ↓setS4, ↓setS5, ↓setS6, ↓setS7, ↓setS8, ↓setS9, ↓conS0, ↓conS1, ↓conS2, ↓conS3, ↓conS4, ↓conS5, ↓conS6, ↓conS7, ↓conS8, ↓conS9, ↓putS0, ↓putS1, ↓putS2, ↓putS3, ↓putS4, ↓putS5, ↓putS6, ↓putS7, ↓putS8, ↓putS9]
      refine ⟨p, p4, M, M, rfl, okM, okM, v4, v5, ?_⟩
      generalize updW W6 p4 (.ins C_Loop ["base"] [encL M]) = W7 at v4 hT7
      rw [eqD_refl _ (good_plain gM)]
      try simp only [encL, ↓pC, ↓pOp, ↓pUn, ↓pSl, ↓pPart, ↓pNil, ↓pCons, ↓pTup, ↓pLst, ↓pCallB, ↓pTest, ↓pNot, ↓pAnd, ↓pOr, ↓pAndV, ↓pOrV, ↓pNotV, ↓pIf, ↓pNext, ↓pSeq, ↓pBreak, ↓pCont, ↓pDrop, ↓pRet, ↓pRetN, ↓pIfS, ↓pgNil, ↓pgCons, ↓pgTup, ↓pAsg, ↓pRaise, ↓pCall, ↓pIter, ↓pFor, ↓pLc, ↓pYes, ↓pkOf, ↓pIxK, ↓pTabG, ↓pLenK, ↓pChain, ↓pStore, ↓pAppend, ↓pPop, ↓poLst, ↓poDct, ↓pNewW, ↓pRng1, ↓pRng2, ↓pTry, ↓pTryAs, ↓oEq, ↓oNe, ↓oLen, ↓oSum, ↓oAll, ↓oAny, ↓oIsi, start0, List.map_cons, List.map_nil, List.length_cons, List.length_nil, List.cons_append, List.nil_append, List.getElem?_cons_zero, List.getElem?_cons_succ, List.set_cons_zero, List.set_cons_succ, List.replicate, D.bl.injEq, D.int.injEq, D.str.injEq, D.tup.injEq, D.lst.injEq, exists_eq_left', exists_eq_left, Option.some.injEq, Bool.false_eq_true, if_true, if_false, true_and, and_true, false_and, and_false, isi_int, isi_bool, isi_str, isi_tuple, isi_list, isiT_int, isiT_bool, isiT_str, isiT_tuple, isiT_list, Bool.not_true, Bool.not_false, dat_non, dat_bl, dat_int, dat_str, dat_tup, dat_lst, isInt_non, isInt_bl, isInt_int, isInt_str, isInt_tup, isInt_lst, isBool_non, isBool_bl, isBool_int, isBool_str, isBool_tup, isBool_lst, isStr_non, isStr_bl, isStr_int, isStr_str, isStr_tup, isStr_lst, isTup_non, isTup_bl, isTup_int, isTup_str, isTup_tup, isTup_lst, isLst_non, isLst_bl, isLst_int, isLst_str, isLst_tup, isLst_lst, Nat.reduceAdd, Nat.zero_add, sz_0, sz_1, sz_2, sz_3, sz_4, sz_5, sz_6, sz_7, sz_8, sz_9, sz_10, sz_11, sz_12, List.any_cons, List.any_nil, eqD_tup, eqD_str, eqD_int, eqDs_cons, eqDs_nil, eqDs_cn, eqDs_nc, Bool.or_false, Bool.and_true, at0, at1, at2, at3, at4, good_int, good_bl, good_nil, good_nilL, good_non, eqDs_nil_r, eqDs_nil_l, List.isEmpty_nil, List.isEmpty_cons, Bool.and_false, Bool.or_true, Bool.false_or, Bool.true_or, Bool.false_and, Bool.true_and, encB, wipS_mk, List.foldr_cons, List.foldr_nil, con_updW, ↓ixC_ownD, ↓oIx_tup, ↓oIx_lst, ↓oIx_str, ↓lenC_ownL, ↓lenC_ownD, ↓setC_ownD, putC_adr, Own_lst_inj, Con_own_inj, updW_upd, Nat.reduceSub, Nat.sub_self, ↓itD_lst, ↓itD_tup, ↓oInt_i, ↓oCmp_i, ↓oAdd_i, ↓oAdd_s, ↓oAdd_t, ↓oAdd_l, ↓oNeg_i, ↓o1I_i, ↓o2I_i, ↓oSl_t, ↓oSl_l, ↓oList_t, ↓oList_l, ↓oTuple_t, ↓oTuple_l, ↓oIn_t, ↓oIn_l, ↓oIsN_n, ↓ixC_ownLi, ↓setC_ownLi, ixN20, ixN21, ex_int1, ex_int2, ↓pSet_eq, ↓ixK_tup, ↓ixK_lst, ↓ixK_str, ↓ixK_dct, ↓lenK_tup, ↓lenK_lst, ↓lenK_str, ↓pSetO_eq, ↓pPar_eq, ↓kPar_mk, ↓pGet2, ↓pFrzO_eq, ↓kFrz_lst, ↓kFrz_dct, ↓pPairs_nil, ↓pPairs_cons, ↓poDisp, ↓getC_val, isDc_val, ↓poCat, ↓catD_l, ↓pVarV0, ↓pVarV1, ↓pVarV2, ↓pVarV3, ↓pVarV4, ↓pVarV5, ↓pVarV6, ↓pVarV7, ↓pVarV8, ↓pVarV9, ↓pVarL0, ↓pVarL1, ↓pVarL2, ↓pVarL3, ↓pVarL4, ↓pVarL5, ↓pVarL6, ↓pVarL7, ↓pVarL8, ↓pVarL9, ↓pVarD0, ↓pVarD1, ↓pVarD2, ↓pVarD3, ↓pVarD4, ↓pVarD5, ↓pVarD6, ↓pVarD7, ↓pVarD8, ↓pVarD9, ↓pkVarV0, ↓pkVarV1, ↓pkVarV2, ↓pkVarV3, ↓pkVarV4, ↓pkVarV5, ↓pkVarV6, ↓pkVarV7, ↓pkVarV8, ↓pkVarV9, ↓pkVarO0, ↓pkVarO1, ↓pkVarO2, ↓pkVarO3, ↓pkVarO4, ↓pkVarO5, ↓pkVarO6, ↓pkVarO7, ↓pkVarO8, ↓pkVarO9, ↓kSetN0, ↓kSetN1, ↓kSetN2, ↓kSetN3, ↓kSetN4, ↓kSetN5, ↓kSetN6, ↓kSetN7, ↓kSetN8, ↓kSetN9, ↓kSetO_N0, ↓kSetO_N1, ↓kSetO_N2, ↓kSetO_N3, ↓kSetO_N4, ↓kSetO_N5, ↓kSetO_N6, ↓kSetO_N7, ↓kSetO_N8, ↓kSetO_N9, ↓pgNameN0, ↓pgNameN1, ↓pgNameN2, ↓pgNameN3, ↓pgNameN4, ↓pgNameN5, ↓pgNameN6, ↓pgNameN7, ↓pgNameN8, ↓pgNameN9, ↓ixS0, ↓ixS1, ↓ixS2, ↓ixS3, ↓ixS4, ↓ixS5, ↓ixS6, ↓ixS7, ↓ixS8, ↓ixS9, ↓lenS0, ↓lenS1, ↓lenS2, ↓lenS3, ↓lenS4, ↓lenS5, ↓lenS6, ↓lenS7, ↓lenS8, ↓lenS9, ↓setS0, ↓setS1, ↓setS2, ↓setS3, ↓setS4, ↓setS5, ↓setS6, ↓setS7, ↓setS8, ↓setS9, ↓conS0, ↓conS1, ↓conS2, ↓conS3, ↓conS4, ↓conS5, ↓conS6, ↓conS7, ↓conS8, ↓conS9, ↓putS0, ↓putS1, ↓putS2, ↓putS3, ↓putS4, ↓putS5, ↓putS6, ↓putS7, ↓putS8, ↓putS9]
      refine ⟨M.body, rfl, (okL_iff.mp okM).2.1, ?_⟩
      walk_at "pls"
      refine forW_mem (fun S => ∃ s9, S = ⟨[.val (.lst (xs.map D.int)), .val (.int (0 + k)), .val (.adr a), .val (encL M), .val (.adr p), .val (.adr p), .val (.adr p2), .val (encL L), s8, s9], W7⟩) ?_ ?_ ⟨_, rfl⟩
      · rintro S ⟨s9, rfl⟩
        exact hK _ ⟨W7, _, _, _, _, _, _, _, _, _, hT7, rfl⟩
      · rintro d hd S K' ⟨s9, rfl⟩ hK'
        have hdat : d.dat = true := by
          simp only [List.mem_cons, List.not_mem_nil, or_false] at hd
          rcases hd with rfl | rfl | rfl | rfl | rfl <;> rfl
        have hno : isNum d 0 ((listedB M.body).length - 1) = false := by
          simp only [List.mem_cons, List.not_mem_nil, or_false] at hd
          rcases hd with rfl | rfl | rfl | rfl | rfl <;> first | rfl | exact isNum_out (by omega)
        try simp only [↓pWord, ↓pIxOwn, ↓pC, ↓pOp, ↓pUn, ↓pSl, ↓pPart, ↓pNil, ↓pCons, ↓pTup, ↓pLst, ↓pCallB, ↓pTest, ↓pNot, ↓pAnd, ↓pOr, ↓pAndV, ↓pOrV, ↓pNotV, ↓pIf, ↓pNext, ↓pSeq, ↓pBreak, ↓pCont, ↓pDrop, ↓pRet, ↓pRetN, ↓pIfS, ↓pgNil, ↓pgCons, ↓pgTup, ↓pAsg, ↓pRaise, ↓pCall, ↓pIter, ↓pFor, ↓pLc, ↓pYes, ↓pkOf, ↓pIxK, ↓pTabG, ↓pLenK, ↓pChain, ↓pStore, ↓pAppend, ↓pPop, ↓poLst, ↓poDct, ↓pNewW, ↓pRng1, ↓pRng2, ↓pTry, ↓pTryAs, ↓oEq, ↓oNe, ↓oLen, ↓oSum, ↓oAll, ↓oAny, ↓oIsi, start0, List.map_cons, List.map_nil, List.length_cons, List.length_nil, List.cons_append, List.nil_append, List.getElem?_cons_zero, List.getElem?_cons_succ, List.set_cons_zero, List.set_cons_succ, List.replicate, D.bl.injEq, D.int.injEq, D.str.injEq, D.tup.injEq, D.lst.injEq, exists_eq_left', exists_eq_left, Option.some.injEq, Bool.false_eq_true, if_true, if_false, true_and, and_true, false_and, and_false, isi_int, isi_bool, isi_str, isi_tuple, isi_list, isiT_int, isiT_bool, isiT_str, isiT_tuple, isiT_list, Bool.not_true, Bool.not_false, dat_non, dat_bl, dat_int, dat_str, dat_tup, dat_lst, isInt_non, isInt_bl, isInt_int, isInt_str, isInt_tup, isInt_lst, isBool_non, isBool_bl, isBool_int, isBool_str, isBool_tup, isBool_lst, isStr_non, isStr_bl, isStr_int, isStr_str, isStr_tup, isStr_lst, isTup_non, isTup_bl, isTup_int, isTup_str, isTup_tup, isTup_lst, isLst_non, isLst_bl, isLst_int, isLst_str, isLst_tup, isLst_lst, Nat.reduceAdd, Nat.zero_add, sz_0, sz_1, sz_2, sz_3, sz_4, sz_5, sz_6, sz_7, sz_8, sz_9, sz_10, sz_11, sz_12, List.any_cons, List.any_nil, eqD_tup, eqD_str, eqD_int, eqDs_cons, eqDs_nil, eqDs_cn, eqDs_nc, Bool.or_false, Bool.and_true, at0, at1, at2, at3, at4, good_int, good_bl, good_nil, good_nilL, good_non, eqDs_nil_r, eqDs_nil_l, List.isEmpty_nil, List.isEmpty_cons, Bool.and_false, Bool.or_true, Bool.false_or, Bool.true_or, Bool.false_and, Bool.true_and, encB, wipS_mk, List.foldr_cons, List.foldr_nil, con_updW, ↓ixC_ownD, ↓oIx_tup, ↓oIx_lst, ↓oIx_str, ↓lenC_ownL, ↓lenC_ownD, ↓setC_ownD, putC_adr, Own_lst_inj, Con_own_inj, updW_upd, Nat.reduceSub, Nat.sub_self, ↓itD_lst, ↓itD_tup, ↓oInt_i, ↓oCmp_i, ↓oAdd_i, ↓oAdd_s, ↓oAdd_t, ↓oAdd_l, ↓oNeg_i, ↓o1I_i, ↓o2I_i, ↓oSl_t, ↓oSl_l, ↓oList_t, ↓oList_l, ↓oTuple_t, ↓oTuple_l, ↓oIn_t, ↓oIn_l, ↓oIsN_n, ↓ixC_ownLi, ↓setC_ownLi, ixN20, ixN21, ex_int1, ex_int2, ↓pSet_eq, ↓ixK_tup, ↓ixK_lst, ↓ixK_str, ↓ixK_dct, ↓lenK_tup, ↓lenK_lst, ↓lenK_str, ↓pSetO_eq, ↓pPar_eq, ↓kPar_mk, ↓pGet2, ↓pFrzO_eq, ↓kFrz_lst, ↓kFrz_dct, ↓pPairs_nil, ↓pPairs_cons, ↓poDisp, ↓getC_val, isDc_val, ↓poCat, ↓catD_l, ↓pVarV0, ↓pVarV1, ↓pVarV2, ↓pVarV3, ↓pVarV4, ↓pVarV5, ↓pVarV6, ↓pVarV7, ↓pVarV8, ↓pVarV9, ↓pVarL0, ↓pVarL1, ↓pVarL2, ↓pVarL3, ↓pVarL4, ↓pVarL5, ↓pVarL6, ↓pVarL7, ↓pVarL8, ↓pVarL9, ↓pVarD0, ↓pVarD1, ↓pVarD2, ↓pVarD3, ↓pVarD4, ↓pVarD5, ↓pVarD6, ↓pVarD7, ↓pVarD8, ↓pVarD9, ↓pkVarV0, ↓pkVarV1, ↓pkVarV2, ↓pkVarV3, ↓pkVarV4, ↓pkVarV5, ↓pkVarV6, ↓pkVarV7, ↓pkVarV8, ↓pkVarV9, ↓pkVarO0, ↓pkVarO1, ↓pkVarO2, ↓pkVarO3, ↓pkVarO4, ↓pkVarO5, ↓pkVarO6, ↓pkVarO7, ↓pkVarO8, ↓pkVarO9, ↓kSetN0, ↓kSetN1, ↓kSetN2, ↓kSetN3, ↓kSetN4, ↓kSetN5, ↓kSetN6, ↓kSetN7, ↓kSetN8, ↓kSetN9, ↓kSetO_N0, ↓kSetO_N1, ↓kSetO_N2, ↓kSetO_N3, ↓kSetO_N4, ↓kSetO_N5, ↓kSetO_N6, ↓kSetO_N7, ↓kSetO_N8, ↓kSetO_N9, ↓pgNameN0, ↓pgNameN1, ↓pgNameN2, ↓pgNameN3, ↓pgNameN4, ↓pgNameN5, ↓pgNameN6, ↓pgNameN7, ↓pgNameN8, ↓pgNameN9, ↓ixS0, ↓ixS1, ↓ixS2, ↓ixS3, ↓ixS4, ↓ixS5, ↓ixS6, ↓ixS7, ↓ixS8, ↓ixS9, ↓lenS0, ↓lenS1, ↓lenS2, ↓lenS3, ↓lenS4, ↓lenS5, ↓lenS6, ↓lenS7, ↓lenS8, ↓lenS9, ↓setS0, ↓setS1, ↓setS2, ↓setS3, ↓setS4, ↓setS5, ↓setS6, ↓setS7, ↓setS8, ↓setS9, ↓conS0, ↓conS1, ↓conS2, ↓conS3, ↓conS4, ↓conS5, ↓conS6, ↓conS7, ↓conS8, ↓conS9, ↓putS0, ↓putS1, ↓putS2, ↓putS3, ↓putS4, ↓putS5, ↓putS6, ↓putS7, ↓putS8, ↓putS9]
        refine ⟨hT7.1, ?_⟩
        try simp only [↓insW_val v4, ↓pC, ↓pOp, ↓pUn, ↓pSl, ↓pPart, ↓pNil, ↓pCons, ↓pTup, ↓pLst, ↓pCallB, ↓pTest, ↓pNot, ↓pAnd, ↓pOr, ↓pAndV, ↓pOrV, ↓pNotV, ↓pIf, ↓pNext, ↓pSeq, ↓pBreak, ↓pCont, ↓pDrop, ↓pRet, ↓pRetN, ↓pIfS, ↓pgNil, ↓pgCons, ↓pgTup, ↓pAsg, ↓pRaise, ↓pCall, ↓pIter, ↓pFor, ↓pLc, ↓pYes, ↓pkOf, ↓pIxK, ↓pTabG, ↓pLenK, ↓pChain, ↓pStore, ↓pAppend, ↓pPop, ↓poLst, ↓poDct, ↓pNewW, ↓pRng1, ↓pRng2, ↓pTry, ↓pTryAs, ↓oEq, ↓oNe, ↓oLen, ↓oSum, ↓oAll, ↓oAny, ↓oIsi, start0, List.map_cons, List.map_nil, List.length_cons, List.length_nil, List.cons_append, List.nil_append, List.getElem?_cons_zero, List.getElem?_cons_succ, List.set_cons_zero, List.set_cons_succ, List.replicate, D.bl.injEq, D.int.injEq, D.str.injEq, D.tup.injEq, D.lst.injEq, exists_eq_left', exists_eq_left, Option.some.injEq, Bool.false_eq_true, if_true, if_false, true_and, and_true, false_and, and_false, isi_int, isi_bool, isi_str, isi_tuple, isi_list, isiT_int, isiT_bool, isiT_str, isiT_tuple, isiT_list, Bool.not_true, Bool.not_false, dat_non, dat_bl, dat_int, dat_str, dat_tup, dat_lst, isInt_non, isInt_bl, isInt_int, isInt_str, isInt_tup, isInt_lst, isBool_non, isBool_bl, isBool_int, isBool_str, isBool_tup, isBool_lst, isStr_non, isStr_bl, isStr_int, isStr_str, isStr_tup, isStr_lst, isTup_non, isTup_bl, isTup_int, isTup_str, isTup_tup, isTup_lst, isLst_non, isLst_bl, isLst_int, isLst_str, isLst_tup, isLst_lst, Nat.reduceAdd, Nat.zero_add, sz_0, sz_1, sz_2, sz_3, sz_4, sz_5, sz_6, sz_7, sz_8, sz_9, sz_10, sz_11, sz_12, List.any_cons, List.any_nil, eqD_tup, eqD_str, eqD_int, eqDs_cons, eqDs_nil, eqDs_cn, eqDs_nc, Bool.or_false, Bool.and_true, at0, at1, at2, at3, at4, good_int, good_bl, good_nil, good_nilL, good_non, eqDs_nil_r, eqDs_nil_l, List.isEmpty_nil, List.isEmpty_cons, Bool.and_false, Bool.or_true, Bool.false_or, Bool.true_or, Bool.false_and, Bool.true_and, encB, wipS_mk, List.foldr_cons, List.foldr_nil, con_updW, ↓ixC_ownD, ↓oIx_tup, ↓oIx_lst, ↓oIx_str, ↓lenC_ownL, ↓lenC_ownD, ↓setC_ownD, putC_adr, Own_lst_inj, Con_own_inj, updW_upd, Nat.reduceSub, Nat.sub_self, ↓itD_lst, ↓itD_tup, ↓oInt_i, ↓oCmp_i, ↓oAdd_i, ↓oAdd_s, ↓oAdd_t, ↓oAdd_l, ↓oNeg_i, ↓o1I_i, ↓o2I_i, ↓oSl_t, ↓oSl_l, ↓oList_t, ↓oList_l, ↓oTuple_t, ↓oTuple_l, ↓oIn_t, ↓oIn_l, ↓oIsN_n, ↓ixC_ownLi, ↓setC_ownLi, ixN20, ixN21, ex_int1, ex_int2, ↓pSet_eq, ↓ixK_tup, ↓ixK_lst, ↓ixK_str, ↓ixK_dct, ↓lenK_tup, ↓lenK_lst, ↓lenK_str, ↓pSetO_eq, ↓pPar_eq, ↓kPar_mk, ↓pGet2, ↓pFrzO_eq, ↓kFrz_lst, ↓kFrz_dct, ↓pPairs_nil, ↓pPairs_cons, ↓poDisp, ↓getC_val, isDc_val, ↓poCat, ↓catD_l, ↓pVarV0, ↓pVarV1, ↓pVarV2, ↓pVarV3, ↓pVarV4, ↓pVarV5, ↓pVarV6, ↓pVarV7, ↓pVarV8, ↓pVarV9, ↓pVarL0, ↓pVarL1, ↓pVarL2, ↓pVarL3, ↓pVarL4, ↓pVarL5, ↓pVarL6, ↓pVarL7, ↓pVarL8, ↓pVarL9, ↓pVarD0, ↓pVarD1, ↓pVarD2, ↓pVarD3, ↓pVarD4, ↓pVarD5, ↓pVarD6, ↓pVarD7, ↓pVarD8, ↓pVarD9, ↓pkVarV0, ↓pkVarV1, ↓pkVarV2, ↓pkVarV3, ↓pkVarV4, ↓pkVarV5, ↓pkVarV6, ↓pkVarV7, ↓pkVarV8, ↓pkVarV9, ↓pkVarO0, ↓pkVarO1, ↓pkVarO2, ↓pkVarO3, ↓pkVarO4, ↓pkVarO5, ↓pkVarO6, ↓pkVarO7, ↓pkVarO8, ↓pkVarO9, ↓kSetN0, ↓kSetN1, ↓kSetN2, ↓kSetN3, ↓kSetN4, ↓kSetN5, ↓kSetN6, ↓kSetN7, ↓kSetN8, ↓kSetN9, ↓kSetO_N0, ↓kSetO_N1, ↓kSetO_N2, ↓kSetO_N3, ↓kSetO_N4, ↓kSetO_N5, ↓kSetO_N6, ↓kSetO_N7, ↓kSetO_N8, ↓kSetO_N9, ↓pgNameN0, ↓pgNameN1, ↓pgNameN2, ↓pgNameN3, ↓pgNameN4, ↓pgNameN5, ↓pgNameN6, ↓pgNameN7, ↓pgNameN8, ↓pgNameN9, ↓ixS0, ↓ixS1, ↓ixS2, ↓ixS3, ↓ixS4, ↓ixS5, ↓ixS6, ↓ixS7, ↓ixS8, ↓ixS9, ↓lenS0, ↓lenS1, ↓lenS2, ↓lenS3, ↓lenS4, ↓lenS5, ↓lenS6, ↓lenS7, ↓lenS8, ↓lenS9, ↓setS0, ↓setS1, ↓setS2, ↓setS3, ↓setS4, ↓setS5, ↓setS6, ↓setS7, ↓setS8, ↓setS9, ↓conS0, ↓conS1, ↓conS2, ↓conS3, ↓conS4, ↓conS5, ↓conS6, ↓conS7, ↓conS8, ↓conS9, ↓putS0, ↓putS1, ↓putS2, ↓putS3, ↓putS4, ↓putS5, ↓putS6, ↓putS7, ↓putS8, ↓putS9]
        refine ⟨p, M, d, rfl, okM, v4, hdat, hno, ⟨false, e2, (fun h => nomatch h), fun _ => ⟨true, e3, fun _ => ?_, (fun h => nomatch h)⟩⟩⟩
        try simp only [wg3, beq_self_eq_true, eqD_refl, ↓pC, ↓pOp, ↓pUn, ↓pSl, ↓pPart, ↓pNil, ↓pCons, ↓pTup, ↓pLst, ↓pCallB, ↓pTest, ↓pNot, ↓pAnd, ↓pOr, ↓pAndV, ↓pOrV, ↓pNotV, ↓pIf, ↓pNext, ↓pSeq, ↓pBreak, ↓pCont, ↓pDrop, ↓pRet, ↓pRetN, ↓pIfS, ↓pgNil, ↓pgCons, ↓pgTup, ↓pAsg, ↓pRaise, ↓pCall, ↓pIter, ↓pFor, ↓pLc, ↓pYes, ↓pkOf, ↓pIxK, ↓pTabG, ↓pLenK, ↓pChain, ↓pStore, ↓pAppend, ↓pPop, ↓poLst, ↓poDct, ↓pNewW, ↓pRng1, ↓pRng2, ↓pTry, ↓pTryAs, ↓oEq, ↓oNe, ↓oLen, ↓oSum, ↓oAll, ↓oAny, ↓oIsi, start0, List.map_cons, List.map_nil, List.length_cons, List.length_nil, List.cons_append, List.nil_append, List.getElem?_cons_zero, List.getElem?_cons_succ, List.set_cons_zero, List.set_cons_succ, List.replicate, D.bl.injEq, D.int.injEq, D.str.injEq, D.tup.injEq, D.lst.injEq, exists_eq_left', exists_eq_left, Option.some.injEq, Bool.false_eq_true, if_true, if_false, true_and, and_true, false_and, and_false, isi_int, isi_bool, isi_str, isi_tuple, isi_list, isiT_int, isiT_bool, isiT_str, isiT_tuple, isiT_list, Bool.not_true, Bool.not_false, dat_non, dat_bl, dat_int, dat_str, dat_tup, dat_lst, isInt_non, isInt_bl, isInt_int, isInt_str, isInt_tup, isInt_lst, isBool_non, isBool_bl, isBool_int, isBool_str, isBool_tup, isBool_lst, isStr_non, isStr_bl, isStr_int, isStr_str, isStr_tup, isStr_lst, isTup_non, isTup_bl, isTup_int, isTup_str, isTup_tup, isTup_lst, isLst_non, isLst_bl, isLst_int, isLst_str, isLst_tup, isLst_lst, Nat.reduceAdd, Nat.zero_add, sz_0, sz_1, sz_2, sz_3, sz_4, sz_5, sz_6, sz_7, sz_8, sz_9, sz_10, sz_11, sz_12, List.any_cons, List.any_nil, eqD_tup, eqD_str, eqD_int, eqDs_cons, eqDs_nil, eqDs_cn, eqDs_nc, Bool.or_false, Bool.and_true, at0, at1, at2, at3, at4, good_int, good_bl, good_nil, good_nilL, good_non, eqDs_nil_r, eqDs_nil_l, List.isEmpty_nil, List.isEmpty_cons, Bool.and_false, Bool.or_true, Bool.false_or, Bool.true_or, Bool.false_and, Bool.true_and, encB, wipS_mk, List.foldr_cons, List.foldr_nil, con_updW, ↓ixC_ownD, ↓oIx_tup, ↓oIx_lst, ↓oIx_str, ↓lenC_ownL, ↓lenC_ownD, ↓setC_ownD, putC_adr, Own_lst_inj, Con_own_inj, updW_upd, Nat.reduceSub, Nat.sub_self, ↓itD_lst, ↓itD_tup, ↓oInt_i, ↓oCmp_i, ↓oAdd_i, ↓oAdd_s, ↓oAdd_t, ↓oAdd_l, ↓oNeg_i, ↓o1I_i, ↓o2I_i, ↓oSl_t, ↓oSl_l, ↓oList_t, ↓oList_l, ↓oTuple_t, ↓oTuple_l, ↓oIn_t, ↓oIn_l, ↓oIsN_n, ↓ixC_ownLi, ↓setC_ownLi, ixN20, ixN21, ex_int1, ex_int2, ↓pSet_eq, ↓ixK_tup, ↓ixK_lst, ↓ixK_str, ↓ixK_dct, ↓lenK_tup, ↓lenK_lst, ↓lenK_str, ↓pSetO_eq, ↓pPar_eq, ↓kPar_mk, ↓pGet2, ↓pFrzO_eq, ↓kFrz_lst, ↓kFrz_dct, ↓pPairs_nil, ↓pPairs_cons, ↓poDisp, ↓getC_val, isDc_val, ↓poCat, ↓catD_l, ↓pVarV0, ↓pVarV1, ↓pVarV2, ↓pVarV3, ↓pVarV4, ↓pVarV5, ↓pVarV6, ↓pVarV7, ↓pVarV8, ↓pVarV9, ↓pVarL0, ↓pVarL1, ↓pVarL2, ↓pVarL3, ↓pVarL4, ↓pVarL5, ↓pVarL6, ↓pVarL7, ↓pVarL8, ↓pVarL9, ↓pVarD0, ↓pVarD1, ↓pVarD2, ↓pVarD3, ↓pVarD4, ↓pVarD5, ↓pVarD6, ↓pVarD7, ↓pVarD8, ↓pVarD9, ↓pkVarV0, ↓pkVarV1, ↓pkVarV2, ↓pkVarV3, ↓pkVarV4, ↓pkVarV5, ↓pkVarV6, ↓pkVarV7, ↓pkVarV8, ↓pkVarV9, ↓pkVarO0, ↓pkVarO1, ↓pkVarO2, ↓pkVarO3, ↓pkVarO4, ↓pkVarO5, ↓pkVarO6, ↓pkVarO7, ↓pkVarO8, ↓pkVarO9, ↓kSetN0, ↓kSetN1, ↓kSetN2, ↓kSetN3, ↓kSetN4, ↓kSetN5, ↓kSetN6, ↓kSetN7, ↓kSetN8, ↓kSetN9, ↓kSetO_N0, ↓kSetO_N1, ↓kSetO_N2, ↓kSetO_N3, ↓kSetO_N4, ↓kSetO_N5, ↓kSetO_N6, ↓kSetO_N7, ↓kSetO_N8, ↓kSetO_N9, ↓pgNameN0, ↓pgNameN1, ↓pgNameN2, ↓pgNameN3, ↓pgNameN4, ↓pgNameN5, ↓pgNameN6, ↓pgNameN7, ↓pgNameN8, ↓pgNameN9, ↓ixS0, ↓ixS1, ↓ixS2, ↓ixS3, ↓ixS4, ↓ixS5, ↓ixS6, ↓ixS7, ↓ixS8, ↓ixS9, ↓lenS0, ↓lenS1, ↓lenS2, ↓lenS3, ↓lenS4, ↓lenS5, ↓lenS6, ↓lenS7, ↓lenS8, ↓lenS9, ↓setS0, ↓setS1, ↓setS2, ↓setS3, ↓setS4, ↓setS5, ↓setS6, ↓setS7, ↓setS8, ↓setS9, ↓conS0, ↓conS1, ↓conS2, ↓conS3, ↓conS4, ↓conS5, ↓conS6, ↓conS7, ↓conS8, ↓conS9, ↓putS0, ↓putS1, ↓putS2, ↓putS3, ↓putS4, ↓putS5, ↓putS6, ↓putS7, ↓putS8, ↓putS9]
        exact hK' _ ⟨_, rfl⟩
    · rintro t S K2 ht ⟨W, M, s8, s9, okM, hw, hw', hs, hT4, rfl⟩ hK2
      walk_at "pls"
      refine ⟨a, p, M, rfl, okM, hs, hw, hT4.2, fun M' W' okM' hv' hs' ho => ?_⟩
      have hv2 : Val W' C_Loop p2 L := (ho p2 (na p2 hp2') n21).trans hw'
      have hT5 := hT4.other ho hs hw
      have gM := good_L okM'
      walk_at "pls"
      rw [if_neg (show ¬ (D.isN (encL M') = true) from fun h => by cases h)]
      try simp only [↓pProp, ↓insW_val hv', ↓pC, ↓pOp, ↓pUn, ↓pSl, ↓pPart, ↓pNil, ↓pCons, ↓pTup, ↓pLst, ↓pCallB, ↓pTest, ↓pNot, ↓pAnd, ↓pOr, ↓pAndV, ↓pOrV, ↓pNotV, ↓pIf, ↓pNext, ↓pSeq, ↓pBreak, ↓pCont, ↓pDrop, ↓pRet, ↓pRetN, ↓pIfS, ↓pgNil, ↓pgCons, ↓pgTup, ↓pAsg, ↓pRaise, ↓pCall, ↓pIter, ↓pFor, ↓pLc, ↓pYes, ↓pkOf, ↓pIxK, ↓pTabG, ↓pLenK, ↓pChain, ↓pStore, ↓pAppend, ↓pPop, ↓poLst, ↓poDct, ↓pNewW, ↓pRng1, ↓pRng2, ↓pTry, ↓pTryAs, ↓oEq, ↓oNe, ↓oLen, ↓oSum, ↓oAll, ↓oAny, ↓oIsi, start0, List.map_cons, List.map_nil, List.length_cons, List.length_nil, List.cons_append, List.nil_append, List.getElem?_cons_zero, List.getElem?_cons_succ, List.set_cons_zero, List.set_cons_succ, List.replicate, D.bl.injEq, D.int.injEq, D.str.injEq, D.tup.injEq, D.lst.injEq, exists_eq_left', exists_eq_left, Option.some.injEq, Bool.false_eq_true, if_true, if_false, true_and, and_true, false_and, and_false, isi_int, isi_bool, isi_str, isi_tuple, isi_list, isiT_int, isiT_bool, isiT_str, isiT_tuple, isiT_list, Bool.not_true, Bool.not_false, dat_non, dat_bl, dat_int, dat_str, dat_tup, dat_lst, isInt_non, isInt_bl, isInt_int, isInt_str, isInt_tup, isInt_lst, isBool_non, isBool_bl, isBool_int, isBool_str, isBool_tup, isBool_lst, isStr_non, isStr_bl, isStr_int, isStr_str, isStr_tup, isStr_lst, isTup_non, isTup_bl, isTup_int, isTup_str, isTup_tup, isTup_lst, isLst_non, isLst_bl, isLst_int, isLst_str, isLst_tup, isLst_lst, Nat.reduceAdd, Nat.zero_add, sz_0, sz_1, sz_2, sz_3, sz_4, sz_5, sz_6, sz_7, sz_8, sz_9, sz_10, sz_11, sz_12, List.any_cons, List.any_nil, eqD_tup, eqD_str, eqD_int, eqDs_cons, eqDs_nil, eqDs_cn, eqDs_nc, Bool.or_false, Bool.and_true, at0, at1, at2, at3, at4, good_int, good_bl, good_nil, good_nilL, good_non, eqDs_nil_r, eqDs_nil_l, List.isEmpty_nil, List.isEmpty_cons, Bool.and_false, Bool.or_true, Bool.false_or, Bool.true_or, Bool.false_and, Bool.true_and, encB, wipS_mk, List.foldr_cons, List.foldr_nil, con_updW, ↓ixC_ownD, ↓oIx_tup, ↓oIx_lst, ↓oIx_str, ↓lenC_ownL, ↓lenC_ownD, ↓setC_ownD, putC_adr, Own_lst_inj, Con_own_inj, updW_upd, Nat.reduceSub, Nat.sub_self, ↓itD_lst, ↓itD_tup, ↓oInt_i, ↓oCmp_i, ↓oAdd_i, ↓oAdd_s, ↓oAdd_t, ↓oAdd_l, ↓oNeg_i, ↓o1I_i, ↓o2I_i, ↓oSl_t, ↓oSl_l, ↓oList_t, ↓oList_l, ↓oTuple_t, ↓oTuple_l, ↓oIn_t, ↓oIn_l, ↓oIsN_n, ↓ixC_ownLi, ↓setC_ownLi, ixN20, ixN21, ex_int1, ex_int2, ↓pSet_eq, ↓ixK_tup, ↓ixK_lst, ↓ixK_str, ↓ixK_dct, ↓lenK_tup, ↓lenK_lst, ↓lenK_str, ↓pSetO_eq, ↓pPar_eq, ↓kPar_mk, ↓pGet2, ↓pFrzO_eq, ↓kFrz_lst, ↓kFrz_dct, ↓pPairs_nil, ↓pPairs_cons, ↓poDisp, ↓getC_val, isDc_val, ↓poCat, ↓catD_l, ↓pVarV0, ↓pVarV1, ↓pVarV2, ↓pVarV3, ↓pVarV4, ↓pVarV5, ↓pVarV6, ↓pVarV7, ↓pVarV8, ↓pVarV9, ↓pVarL0, ↓pVarL1, ↓pVarL2, ↓pVarL3, ↓pVarL4, ↓pVarL5, ↓pVarL6, ↓pVarL7, ↓pVarL8, ↓pVarL9, ↓pVarD0, ↓pVarD1, ↓pVarD2, ↓pVarD3, ↓pVarD4, ↓pVarD5, ↓pVarD6, ↓pVarD7, ↓pVarD8, ↓pVarD9, ↓pkVarV0, ↓pkVarV1, ↓pkVarV2, ↓pkVarV3, ↓pkVarV4, ↓pkVarV5, ↓pkVarV6, ↓pkVarV7, ↓pkVarV8, ↓pkVarV9, ↓pkVarO0, ↓pkVarO1, ↓pkVarO2, ↓pkVarO3, ↓pkVarO4, ↓pkVarO5, ↓pkVarO6, ↓pkVarO7, ↓pkVarO8, ↓pkVarO9, ↓kSetN0, ↓kSetN1, ↓kSetN2, ↓kSetN3, ↓kSetN4, ↓kSetN5, ↓kSetN6, ↓kSetN7, ↓kSetN8, ↓kSetN9, ↓kSetO_N0, ↓kSetO_N1, ↓kSetO_N2, ↓kSetO_N3, ↓kSetO_N4, ↓kSetO_N5, ↓kSetO_N6, ↓kSetO_N7, ↓kSetO_N8, ↓kSetO_N9, ↓pgNameN0, ↓pgNameN1, ↓pgNameN2, ↓pgNameN3, ↓pgNameN4, ↓pgNameN5, ↓pgNameN6, ↓pgNameN7, ↓pgNameN8, ↓pgNameN9, ↓ixS0, ↓ixS1, ↓ixS2, ↓ixS3, ↓ixS4, ↓ixS5, ↓ixS6, ↓ixS7, ↓ixS8, ↓ixS9, ↓lenS0, ↓lenS1, ↓lenS2, ↓lenS3, ↓lenS4, ↓lenS5, ↓lenS6, ↓lenS7, ↓lenS8, ↓lenS9, ↓setS0, ↓setS1, ↓setS2, ↓setS3, ↓setS4, ↓setS5, ↓setS6, ↓setS7, ↓setS8, ↓setS9, ↓conS0, ↓conS1, ↓conS2, ↓conS3, ↓conS4, ↓conS5, ↓conS6, ↓conS7, ↓conS8, ↓conS9, ↓putS0, ↓putS1, ↓putS2, ↓putS3, ↓putS4, ↓putS5, ↓putS6, ↓putS7, ↓putS8, ↓putS9]
      refine ⟨p, M', rfl, hv', gM, gM, ?_⟩
      rw [eqD_refl _ (good_plain gM)]
      try simp only [↓pProp, ↓insW_val hv', ↓pC, ↓pOp, ↓pUn, ↓pSl, ↓pPart, ↓pNil, ↓pCons, ↓pTup, ↓pLst, ↓pCallB, ↓pTest, ↓pNot, ↓pAnd, ↓pOr, ↓pAndV, ↓pOrV, ↓pNotV, ↓pIf, ↓pNext, ↓pSeq, ↓pBreak, ↓pCont, ↓pDrop, ↓pRet, ↓pRetN, ↓pIfS, ↓pgNil, ↓pgCons, ↓pgTup, ↓pAsg, ↓pRaise, ↓pCall, ↓pIter, ↓pFor, ↓pLc, ↓pYes, ↓pkOf, ↓pIxK, ↓pTabG, ↓pLenK, ↓pChain, ↓pStore, ↓pAppend, ↓pPop, ↓poLst, ↓poDct, ↓pNewW, ↓pRng1, ↓pRng2, ↓pTry, ↓pTryAs, ↓oEq, ↓oNe, ↓oLen, ↓oSum, ↓oAll, ↓oAny, ↓oIsi, start0, List.map_cons, List.map_nil, List.length_cons, List.length_nil, List.cons_append, List.nil_append, List.getElem?_cons_zero, List.getElem?_cons_succ, List.set_cons_zero, List.set_cons_succ, List.replicate, D.bl.injEq, D.int.injEq, D.str.injEq, D.tup.injEq, D.lst.injEq, exists_eq_left', exists_eq_left, Option.some.injEq, Bool.false_eq_true, if_true, if_false, true_and, and_true, false_and, and_false, isi_int, isi_bool, isi_str, isi_tuple, isi_list, isiT_int, isiT_bool, isiT_str, isiT_tuple, isiT_list, Bool.not_true, Bool.not_false, dat_non, dat_bl, dat_int, dat_str, dat_tup, dat_lst, isInt_non, isInt_bl, isInt_int, isInt_str, isInt_tup, isInt_lst, isBool_non, isBool_bl, isBool_int, isBool_str, isBool_tup, isBool_lst, isStr_non, isStr_bl, isStr_int, isStr_str, isStr_tup, isStr_lst, isTup_non, isTup_bl, isTup_int, isTup_str, isTup_tup, isTup_lst, isLst_non, isLst_bl, isLst_int, isLst_str, isLst_tup, isLst_lst, Nat.reduceAdd, Nat.zero_add, sz_0, sz_1, sz_2, sz_3, sz_4, sz_5, sz_6, sz_7, sz_8, sz_9, sz_10, sz_11, sz_12, List.any_cons, List.any_nil, eqD_tup, eqD_str, eqD_int, eqDs_cons, eqDs_nil, eqDs_cn, eqDs_nc, Bool.or_false, Bool.and_true, at0, at1, at2, at3, at4, good_int, good_bl, good_nil, good_nilL, good_non, eqDs_nil_r, eqDs_nil_l, List.isEmpty_nil, List.isEmpty_cons, Bool.and_false, Bool.or_true, Bool.false_or, Bool.true_or, Bool.false_and, Bool.true_and, encB, wipS_mk, List.foldr_cons, List.foldr_nil, con_updW, ↓ixC_ownD, ↓oIx_tup, ↓oIx_lst, ↓oIx_str, ↓lenC_ownL, ↓lenC_ownD, ↓setC_ownD, putC_adr, Own_lst_inj, Con_own_inj, updW_upd, Nat.reduceSub, Nat.sub_self, ↓itD_lst, ↓itD_tup, ↓oInt_i, ↓oCmp_i, ↓oAdd_i, ↓oAdd_s, ↓oAdd_t, ↓oAdd_l, ↓oNeg_i, ↓o1I_i, ↓o2I_i, ↓oSl_t, ↓oSl_l, ↓oList_t, ↓oList_l, ↓oTuple_t, ↓oTuple_l, ↓oIn_t, ↓oIn_l, ↓oIsN_n, ↓ixC_ownLi, ↓setC_ownLi, ixN20, ixN21, ex_int1, ex_int2, ↓pSet_eq, ↓ixK_tup, ↓ixK_lst, ↓ixK_str, ↓ixK_dct, ↓lenK_tup, ↓lenK_lst, ↓lenK_str, ↓pSetO_eq, ↓pPar_eq, ↓kPar_mk, ↓pGet2, ↓pFrzO_eq, ↓kFrz_lst, ↓kFrz_dct, ↓pPairs_nil, ↓pPairs_cons, ↓poDisp, ↓getC_val, isDc_val, ↓poCat, ↓catD_l, ↓pVarV0, ↓pVarV1, ↓pVarV2, ↓pVarV3, ↓pVarV4, ↓pVarV5, ↓pVarV6, ↓pVarV7, ↓pVarV8, ↓pVarV9, ↓pVarL0, ↓pVarL1, ↓pVarL2, ↓pVarL3, ↓pVarL4, ↓pVarL5, ↓pVarL6, ↓pVarL7, ↓pVarL8, ↓pVarL9, ↓pVarD0, ↓pVarD1, ↓pVarD2, ↓pVarD3, ↓pVarD4, ↓pVarD5, ↓pVarD6, ↓pVarD7, ↓pVarD8, ↓pVarD9, ↓pkVarV0, ↓pkVarV1, ↓pkVarV2, ↓pkVarV3, ↓pkVarV4, ↓pkVarV5, ↓pkVarV6, ↓pkVarV7, ↓pkVarV8, ↓pkVarV9, ↓pkVarO0, ↓pkVarO1, ↓pkVarO2, ↓pkVarO3, ↓pkVarO4, ↓pkVarO5, ↓pkVarO6, ↓pkVarO7, ↓pkVarO8, ↓pkVarO9, ↓kSetN0, ↓kSetN1, ↓kSetN2, ↓kSetN3, ↓kSetN4, ↓kSetN5, ↓kSetN6, ↓kSetN7, ↓kSetN8, ↓kSetN9, ↓kSetO_N0, ↓kSetO_N1, ↓kSetO_N2, ↓kSetO_N3, ↓kSetO_N4, ↓kSetO_N5, ↓kSetO_N6, ↓kSetO_N7, ↓kSetO_N8, ↓kSetO_N9, ↓pgNameN0, ↓pgNameN1, ↓pgNameN2, ↓pgNameN3, ↓pgNameN4, ↓pgNameN5, ↓pgNameN6, ↓pgNameN7, ↓pgNameN8, ↓pgNameN9, ↓ixS0, ↓ixS1, ↓ixS2, ↓ixS3, ↓ixS4, ↓ixS5, ↓ixS6, ↓ixS7, ↓ixS8, ↓ixS9, ↓lenS0, ↓lenS1, ↓lenS2, ↓lenS3, ↓lenS4, ↓lenS5, ↓lenS6, ↓lenS7, ↓lenS8, ↓lenS9, ↓setS0, ↓setS1, ↓setS2, ↓setS3, ↓setS4, ↓setS5, ↓setS6, ↓setS7, ↓setS8, ↓setS9, ↓conS0, ↓conS1, ↓conS2, ↓conS3, ↓conS4, ↓conS5, ↓conS6, ↓conS7, ↓conS8, ↓conS9, ↓putS0, ↓putS1, ↓putS2, ↓putS3, ↓putS4, ↓putS5, ↓putS6, ↓putS7, ↓putS8, ↓putS9]
      refine ⟨p, M', rfl, hv', gM, gM, ?_⟩
      rw [eqD_refl _ (good_plain gM)]
      try simp only [↓pCmpOwn, ↓insW_val hv', ↓pC, ↓pOp, ↓pUn, ↓pSl, ↓pPart, ↓pNil, ↓pCons, ↓pTup, ↓pLst, ↓pCallB, ↓pTest, ↓pNot, ↓pAnd, ↓pOr, ↓pAndV, ↓pOrV, ↓pNotV, ↓pIf, ↓pNext, ↓pSeq, ↓pBreak, ↓pCont, ↓pDrop, ↓pRet, ↓pRetN, ↓pIfS, ↓pgNil, ↓pgCons, ↓pgTup, ↓pAsg, ↓pRaise, ↓pCall, ↓pIter, ↓pFor, ↓pLc, ↓pYes, ↓pkOf, ↓pIxK, ↓pTabG, ↓pLenK, ↓pChain, ↓pStore, ↓pAppend, ↓pPop, ↓poLst, ↓poDct, ↓pNewW, ↓pRng1, ↓pRng2, ↓pTry, ↓pTryAs, ↓oEq, ↓oNe, ↓oLen, ↓oSum, ↓oAll, ↓oAny, ↓oIsi, start0, List.map_cons, List.map_nil, List.length_cons, List.length_nil, List.cons_append, List.nil_append, List.getElem?_cons_zero, List.getElem?_cons_succ, List.set_cons_zero, List.set_cons_succ, List.replicate, D.bl.injEq, D.int.injEq, D.str.injEq, D.tup.injEq, D.lst.injEq, exists_eq_left', exists_eq_left, Option.some.injEq, Bool.false_eq_true, if_true, if_false, true_and, and_true, false_and, and_false, isi_int, isi_bool, isi_str, isi_tuple, isi_list, isiT_int, isiT_bool, isiT_str, isiT_tuple, isiT_list, Bool.not_true, Bool.not_false, dat_non, dat_bl, dat_int, dat_str, dat_tup, dat_lst, isInt_non, isInt_bl, isInt_int, isInt_str, isInt_tup, isInt_lst, isBool_non, isBool_bl, isBool_int, isBool_str, isBool_tup, isBool_lst, isStr_non, isStr_bl, isStr_int, isStr_str, isStr_tup, isStr_lst, isTup_non, isTup_bl, isTup_int, isTup_str, isTup_tup, isTup_lst, isLst_non, isLst_bl, isLst_int, isLst_str, isLst_tup, isLst_lst, Nat.reduceAdd, Nat.zero_add, sz_0, sz_1, sz_2, sz_3, sz_4, sz_5, sz_6, sz_7, sz_8, sz_9, sz_10, sz_11, sz_12, List.any_cons, List.any_nil, eqD_tup, eqD_str, eqD_int, eqDs_cons, eqDs_nil, eqDs_cn, eqDs_nc, Bool.or_false, Bool.and_true, at0, at1, at2, at3, at4, good_int, good_bl, good_nil, good_nilL, good_non, eqDs_nil_r, eqDs_nil_l, List.isEmpty_nil, List.isEmpty_cons, Bool.and_false, Bool.or_true, Bool.false_or, Bool.true_or, Bool.false_and, Bool.true_and, encB, wipS_mk, List.foldr_cons, List.foldr_nil, con_updW, ↓ixC_ownD, ↓oIx_tup, ↓oIx_lst, ↓oIx_str, ↓lenC_ownL, ↓lenC_ownD, ↓setC_ownD, putC_adr, Own_lst_inj, Con_own_inj, updW_upd, Nat.reduceSub, Nat.sub_self, ↓itD_lst, ↓itD_tup, ↓oInt_i, ↓oCmp_i, ↓oAdd_i, ↓oAdd_s, ↓oAdd_t, ↓oAdd_l, ↓oNeg_i, ↓o1I_i, ↓o2I_i, ↓oSl_t, ↓oSl_l, ↓oList_t, ↓oList_l, ↓oTuple_t, ↓oTuple_l, ↓oIn_t, ↓oIn_l, ↓oIsN_n, ↓ixC_ownLi, ↓setC_ownLi, ixN20, ixN21, ex_int1, ex_int2, ↓pSet_eq, ↓ixK_tup, ↓ixK_lst, ↓ixK_str, ↓ixK_dct, ↓lenK_tup, ↓lenK_lst, ↓lenK_str, ↓pSetO_eq, ↓pPar_eq, ↓kPar_mk, ↓pGet2, ↓pFrzO_eq, ↓kFrz_lst, ↓kFrz_dct, ↓pPairs_nil, ↓pPairs_cons, ↓poDisp, ↓getC_val, isDc_val, ↓poCat, ↓catD_l, ↓pVarV0, ↓pVarV1, ↓pVarV2, ↓pVarV3, ↓pVarV4, ↓pVarV5, ↓pVarV6, ↓pVarV7, ↓pVarV8, ↓pVarV9, ↓pVarL0, ↓pVarL1, ↓pVarL2, ↓pVarL3, ↓pVarL4, ↓pVarL5, ↓pVarL6, ↓pVarL7, ↓pVarL8, ↓pVarL9, ↓pVarD0, ↓pVarD1, ↓pVarD2, ↓pVarD3, ↓pVarD4, ↓pVarD5, ↓pVarD6, ↓pVarD7, ↓pVarD8, ↓pVarD9, ↓pkVarV0, ↓pkVarV1, ↓pkVarV2, ↓pkVarV3, ↓pkVarV4, ↓pkVarV5, ↓pkVarV6, ↓pkVarV7, ↓pkVarV8, ↓pkVarV9, ↓pkVarO0, ↓pkVarO1, ↓pkVarO2, ↓pkVarO3, ↓pkVarO4, ↓pkVarO5, ↓pkVarO6, ↓pkVarO7, ↓pkVarO8, ↓pkVarO9, ↓kSetN0, ↓kSetN1, ↓kSetN2, ↓kSetN3, ↓kSetN4, ↓kSetN5, ↓kSetN6, ↓kSetN7, ↓kSetN8, ↓kSetN9, ↓kSetO_N0, ↓kSetO_N1, ↓kSetO_N2, ↓kSetO_N3, ↓kSetO_N4, ↓kSetO_N5, ↓kSetO_N6, ↓kSetO_N7, ↓kSetO_N8, ↓kSetO_N9, ↓pgNameN0, ↓pgNameN1, ↓pgNameN2, ↓pgNameN3, ↓pgNameN4, ↓pgNameN5, ↓pgNameN6, ↓pgNameN7, ↓pgNameN8, ↓pgNameN9, ↓ixS0, ↓ixS1, ↓ixS2, ↓ixS3, ↓ixS4, ↓ixS5, ↓ixS6, ↓ixS7, ↓ixS8, ↓ixS9, ↓lenS0, ↓lenS1, ↓lenS2, ↓lenS3, ↓lenS4, ↓lenS5, ↓lenS6, ↓lenS7, ↓lenS8, ↓lenS9, ↓setS0, ↓setS1, ↓setS2, ↓setS3, ↓setS4, ↓setS5, ↓setS6, ↓setS7, ↓setS8, ↓setS9, ↓conS0, ↓conS1, ↓conS2, ↓conS3, ↓conS4, ↓conS5, ↓conS6, ↓conS7, ↓conS8, ↓conS9, ↓putS0, ↓putS1, ↓putS2, ↓putS3, ↓putS4, ↓putS5, ↓putS6, ↓putS7, ↓putS8, ↓putS9]
      refine ⟨p, p, M', M', rfl, okM', okM', hv', hv', ?_⟩
      rw [eqD_refl _ (good_plain gM)]
      walk_at "pls"
      exact hK2 _ ⟨W', M', _, _, okM', hv', hv2, hs', hT5, rfl⟩
end
theorem top_mk {P : Program} {w : World} {K : PySem.W.Frag} {h : Heap} {mg : Str → Option Value} {fa f_law f__law_size f__law_word f_Loop_getitem f_words_of f_listed f_bodies_of f_need_statement_number f_is_number f_Loop_eq f__law_value f_Loop_iadd f_with_statement f_is_loop f_is_body f_is_statement f_is_counted f_is_test f_is_worded f_Loop_init f_Loop_source f__law_draw f__law_change f__law_timed f_Loop_imul f_with_most f__law_of f__law_less f__law_cut f__law_fewer f_Loop_isub f_less_number f_less_one f_body_without f__law_grown f__law_simple f__law_loop f__law_bent f__law_known f__law_body f__law_source C_InvalidLoop C_InvalidNumber C_InvalidStatement C_Loop C_PaceError p_LEAST_NUMBERS pr_Loop_source cc_law ct_law cc__law_change ct__law_change : Addr} {od0 an0 od1 an1 od2 an2 od3 an3 od4 an4 od5 an5 od6 an6 od7 an7 od8 an8 od9 an9 od10 an10 od11 an11 od12 an12 od13 an13 od14 an14 od15 an15 od16 an16 od17 an17 od18 an18 od19 an19 od20 an20 od21 an21 od22 an22 od23 an23 od24 an24 od25 an25 od26 an26 od27 an27 od28 an28 od29 an29 od30 an30 od31 an31 od32 an32 od33 an33 od34 an34 od35 an35 od36 an36 od37 an37 od38 an38 od39 an39 od40 an40 co2_law co2__law_change : Option Addr} {sl0 sl1 sl2 sl3 sl4 sl5 sl6 sl7 sl8 sl9 sl10 sl11 sl12 sl13 sl14 sl15 sl16 sl17 sl18 sl19 sl20 sl21 sl22 sl23 sl24 sl25 sl26 sl27 sl28 sl29 sl30 sl31 sl32 sl33 sl34 sl35 sl36 sl37 sl38 sl39 sl40 cs_law cs__law_change : Array (Option Value)} {oc0 kV0 dc0 pm0 ct0 oc1 kV1 dc1 pm1 ct1 oc2 kV2 dc2 pm2 ct2 oc3 kV3 dc3 pm3 ct3 oc4 kV4 dc4 pm4 ct4 oc5 kV5 dc5 pm5 ct5 oc6 kV6 dc6 pm6 ct6 oc7 kV7 dc7 pm7 ct7 oc8 kV8 dc8 pm8 ct8 oc9 kV9 dc9 pm9 ct9 oc10 kV10 dc10 pm10 ct10 oc11 kV11 dc11 pm11 ct11 oc12 kV12 dc12 pm12 ct12 oc13 kV13 dc13 pm13 ct13 oc14 kV14 dc14 pm14 ct14 oc15 kV15 dc15 pm15 ct15 oc16 kV16 dc16 pm16 ct16 oc17 kV17 dc17 pm17 ct17 oc18 kV18 dc18 pm18 ct18 oc19 kV19 dc19 pm19 ct19 oc20 kV20 dc20 pm20 ct20 oc21 kV21 dc21 pm21 ct21 oc22 kV22 dc22 pm22 ct22 oc23 kV23 dc23 pm23 ct23 oc24 kV24 dc24 pm24 ct24 oc25 kV25 dc25 pm25 ct25 oc26 kV26 dc26 pm26 ct26 oc27 kV27 dc27 pm27 ct27 oc28 kV28 dc28 pm28 ct28 oc29 kV29 dc29 pm29 ct29 oc30 kV30 dc30 pm30 ct30 oc31 kV31 dc31 pm31 ct31 oc32 kV32 dc32 pm32 ct32 oc33 kV33 dc33 pm33 ct33 oc34 kV34 dc34 pm34 ct34 oc35 kV35 dc35 pm35 ct35 oc36 kV36 dc36 pm36 ct36 oc37 kV37 dc37 pm37 ct37 oc38 kV38 dc38 pm38 ct38 oc39 kV39 dc39 pm39 ct39 oc40 kV40 dc40 pm40 ct40 cd1 cd2 cd3 cd4 cd5 cd6 cd7 cd8 cd9 cd10 cd11 cd12 cd13 cd14 cd15 cd16 cd17 cd18 cd19 cd20 cd21 cd23 cd24 cd25 cd26 cd27 cd28 cd29 cd30 cd31 cd32 cd33 cd34 cd35 cd36 cd37 cd38 cd39 cd40 ck_law ck__law_change : Value} {cv_law cv__law_change : Array Value} {pq_Loop_source : List Value} {es_LEAST_NUMBERS : Array DictEntry} {n_LEAST_NUMBERS : Nat} {t_MOST_STATEMENTS t_MOST_DEEP t_MOST_TIME te0_LEAST_NUMBERS te1_LEAST_NUMBERS te2_LEAST_NUMBERS te3_LEAST_NUMBERS te4_LEAST_NUMBERS te5_LEAST_NUMBERS : Tok} (X : K.In h) (G : h.Ns mainGlobals mg) (hfa : mg "law" = some (.ref fa))
    (a_law : PySem.W.nsIn K mainGlobals "law" = some (some (.ref f_law)))
    (l_law : K.lookup f_law = some ⟨oc0, od0, .func (PySem.W.fnOf "law" "law" (defArgs s_law) (defBody s_law) (defScope s_law) .none kV0 dc0 pm0 an0 (.ref cc_law) ct0), sl0⟩)
    (co_law : PySem.W.codeIn K (.ref cc_law) "law" = true)
    (k_law : PySem.W.keepIn K (.ref f_law) = true)
    (lc_law : K.lookup cc_law = some ⟨ck_law, co2_law, .fields cv_law, cs_law⟩)
    (vp_law : (cv_law[11]? : Option Value) = some (.ref ct_law))
    (hd_law : PySem.W.codeHdIn K cc_law ct_law = true)
    (nt_law : K.lookup ct_law = none)
    (z_range : PySem.W.nsIn K mainGlobals "range" = some none)
    (z_min : PySem.W.nsIn K mainGlobals "min" = some none)
    (z_len : PySem.W.nsIn K mainGlobals "len" = some none)
    (a__law_size : PySem.W.nsIn K mainGlobals "_law_size" = some (some (.ref f__law_size)))
    (l__law_size : K.lookup f__law_size = some ⟨oc1, od1, .func (PySem.W.fnOf "_law_size" "_law_size" (defArgs s__law_size) (defBody s__law_size) (defScope s__law_size) .none kV1 dc1 pm1 an1 cd1 ct1), sl1⟩)
    (co__law_size : PySem.W.codeIn K cd1 "_law_size" = true)
    (k__law_size : PySem.W.keepIn K (.ref f__law_size) = true)
    (aE_InvalidStatement : PySem.W.nsIn K mainGlobals "InvalidStatement" = some (some (.ref C_InvalidStatement)))
    (xE_InvalidStatement : PySem.W.excIn K C_InvalidStatement [.type "ValueError", .type "Exception", .type "BaseException", .type "object"] "ValueError.__new__" = true)
    (kE_InvalidStatement : PySem.W.keepIn K (.ref C_InvalidStatement) = true)
    (bE_InvalidStatement : PySem.W.subIn K (.ref C_InvalidStatement) (.type "BaseException") = some true)
    (tE_InvalidStatement : PySem.W.typeIn K (.ref C_InvalidStatement) = some (.type "type"))
    (aE_InvalidNumber : PySem.W.nsIn K mainGlobals "InvalidNumber" = some (some (.ref C_InvalidNumber)))
    (xE_InvalidNumber : PySem.W.excIn K C_InvalidNumber [.type "ValueError", .type "Exception", .type "BaseException", .type "object"] "ValueError.__new__" = true)
    (kE_InvalidNumber : PySem.W.keepIn K (.ref C_InvalidNumber) = true)
    (bE_InvalidNumber : PySem.W.subIn K (.ref C_InvalidNumber) (.type "BaseException") = some true)
    (tE_InvalidNumber : PySem.W.typeIn K (.ref C_InvalidNumber) = some (.type "type"))
    (aE_InvalidLoop : PySem.W.nsIn K mainGlobals "InvalidLoop" = some (some (.ref C_InvalidLoop)))
    (xE_InvalidLoop : PySem.W.excIn K C_InvalidLoop [.type "ValueError", .type "Exception", .type "BaseException", .type "object"] "ValueError.__new__" = true)
    (kE_InvalidLoop : PySem.W.keepIn K (.ref C_InvalidLoop) = true)
    (bE_InvalidLoop : PySem.W.subIn K (.ref C_InvalidLoop) (.type "BaseException") = some true)
    (tE_InvalidLoop : PySem.W.typeIn K (.ref C_InvalidLoop) = some (.type "type"))
    (aE_PaceError : PySem.W.nsIn K mainGlobals "PaceError" = some (some (.ref C_PaceError)))
    (xE_PaceError : PySem.W.excIn K C_PaceError [.type "ValueError", .type "Exception", .type "BaseException", .type "object"] "ValueError.__new__" = true)
    (kE_PaceError : PySem.W.keepIn K (.ref C_PaceError) = true)
    (bE_PaceError : PySem.W.subIn K (.ref C_PaceError) (.type "BaseException") = some true)
    (tE_PaceError : PySem.W.typeIn K (.ref C_PaceError) = some (.type "type"))
    (a__law_word : PySem.W.nsIn K mainGlobals "_law_word" = some (some (.ref f__law_word)))
    (l__law_word : K.lookup f__law_word = some ⟨oc2, od2, .func (PySem.W.fnOf "_law_word" "_law_word" (defArgs s__law_word) (defBody s__law_word) (defScope s__law_word) .none kV2 dc2 pm2 an2 cd2 ct2), sl2⟩)
    (co__law_word : PySem.W.codeIn K cd2 "_law_word" = true)
    (k__law_word : PySem.W.keepIn K (.ref f__law_word) = true)
    (ac_Loop : PySem.W.nsIn K mainGlobals "Loop" = some (some (.ref C_Loop)))
    (a_Loop_getitem : PySem.W.findIn K (.ref C_Loop) "__getitem__" = some (some (.ref f_Loop_getitem)))
    (if_Loop_getitem : PySem.W.isFn K (.ref f_Loop_getitem) = true)
    (in_Loop_getitem : PySem.W.fnIn K f_Loop_getitem = true)
    (l_Loop_getitem : K.lookup f_Loop_getitem = some ⟨oc3, od3, .func (PySem.W.fnOf "__getitem__" "Loop.__getitem__" (defArgs s_Loop_getitem) (defBody s_Loop_getitem) (defScope s_Loop_getitem) .none kV3 dc3 pm3 an3 cd3 ct3), sl3⟩)
    (co_Loop_getitem : PySem.W.codeIn K cd3 "Loop.__getitem__" = true)
    (k_Loop_getitem : PySem.W.keepIn K (.ref f_Loop_getitem) = true)
    (na_Loop_base : PySem.W.findIn K (.ref C_Loop) "base" = some none)
    (i1_Loop : PySem.W.plainGet K C_Loop Str.empty = true)
    (i2_Loop : PySem.W.hasDictIn K C_Loop = true)
    (i3_Loop : PySem.W.plainOver K C_Loop = true)
    (i4_Loop : PySem.W.findIn K (.ref C_Loop) "__setattr__" = some (some (.builtin "object.__setattr__")))
    (i5_Loop : PySem.W.selfFirst K C_Loop = true)
    (a_words_of : PySem.W.nsIn K mainGlobals "words_of" = some (some (.ref f_words_of)))
    (l_words_of : K.lookup f_words_of = some ⟨oc4, od4, .func (PySem.W.fnOf "words_of" "words_of" (defArgs s_words_of) (defBody s_words_of) (defScope s_words_of) .none kV4 dc4 pm4 an4 cd4 ct4), sl4⟩)
    (co_words_of : PySem.W.codeIn K cd4 "words_of" = true)
    (k_words_of : PySem.W.keepIn K (.ref f_words_of) = true)
    (a_listed : PySem.W.nsIn K mainGlobals "listed" = some (some (.ref f_listed)))
    (l_listed : K.lookup f_listed = some ⟨oc5, od5, .func (PySem.W.fnOf "listed" "listed" (defArgs s_listed) (defBody s_listed) (defScope s_listed) .none kV5 dc5 pm5 an5 cd5 ct5), sl5⟩)
    (co_listed : PySem.W.codeIn K cd5 "listed" = true)
    (k_listed : PySem.W.keepIn K (.ref f_listed) = true)
    (a_bodies_of : PySem.W.nsIn K mainGlobals "bodies_of" = some (some (.ref f_bodies_of)))
    (l_bodies_of : K.lookup f_bodies_of = some ⟨oc6, od6, .func (PySem.W.fnOf "bodies_of" "bodies_of" (defArgs s_bodies_of) (defBody s_bodies_of) (defScope s_bodies_of) .none kV6 dc6 pm6 an6 cd6 ct6), sl6⟩)
    (co_bodies_of : PySem.W.codeIn K cd6 "bodies_of" = true)
    (k_bodies_of : PySem.W.keepIn K (.ref f_bodies_of) = true)
    (z_list : PySem.W.nsIn K mainGlobals "list" = some none)
    (a_need_statement_number : PySem.W.nsIn K mainGlobals "need_statement_number" = some (some (.ref f_need_statement_number)))
    (l_need_statement_number : K.lookup f_need_statement_number = some ⟨oc7, od7, .func (PySem.W.fnOf "need_statement_number" "need_statement_number" (defArgs s_need_statement_number) (defBody s_need_statement_number) (defScope s_need_statement_number) .none kV7 dc7 pm7 an7 cd7 ct7), sl7⟩)
    (co_need_statement_number : PySem.W.codeIn K cd7 "need_statement_number" = true)
    (k_need_statement_number : PySem.W.keepIn K (.ref f_need_statement_number) = true)
    (a_is_number : PySem.W.nsIn K mainGlobals "is_number" = some (some (.ref f_is_number)))
    (l_is_number : K.lookup f_is_number = some ⟨oc8, od8, .func (PySem.W.fnOf "is_number" "is_number" (defArgs s_is_number) (defBody s_is_number) (defScope s_is_number) .none kV8 dc8 pm8 an8 cd8 ct8), sl8⟩)
    (co_is_number : PySem.W.codeIn K cd8 "is_number" = true)
    (k_is_number : PySem.W.keepIn K (.ref f_is_number) = true)
    (z_isinstance : PySem.W.nsIn K mainGlobals "isinstance" = some none)
    (z_bool : PySem.W.nsIn K mainGlobals "bool" = some none)
    (z_int : PySem.W.nsIn K mainGlobals "int" = some none)
    (a_Loop_eq : PySem.W.findIn K (.ref C_Loop) "__eq__" = some (some (.ref f_Loop_eq)))
    (if_Loop_eq : PySem.W.isFn K (.ref f_Loop_eq) = true)
    (in_Loop_eq : PySem.W.fnIn K f_Loop_eq = true)
    (l_Loop_eq : K.lookup f_Loop_eq = some ⟨oc9, od9, .func (PySem.W.fnOf "__eq__" "Loop.__eq__" (defArgs s_Loop_eq) (defBody s_Loop_eq) (defScope s_Loop_eq) .none kV9 dc9 pm9 an9 cd9 ct9), sl9⟩)
    (co_Loop_eq : PySem.W.codeIn K cd9 "Loop.__eq__" = true)
    (k_Loop_eq : PySem.W.keepIn K (.ref f_Loop_eq) = true)
    (ha_Loop : PySem.W.findIn K (.ref C_Loop) "__class__" = some (some (.builtin "object.__class__")))
    (hn_0 : PySem.W.specialIn K (.builtin "object.__class__") "__get__" = some (some (.builtin "getset_descriptor.__get__")))
    (ht_0 : PySem.W.takesIn K (.builtin "object.__class__") = some true)
    (hm_Loop : PySem.W.mroIn K C_Loop (.type "object") = some true)
    (ic_Loop : PySem.W.isClsIn K C_Loop = true)
    (tE_Loop : PySem.W.typeIn K (.ref C_Loop) = some (.type "type"))
    (sb_Loop_Loop : PySem.W.subIn K (.ref C_Loop) (.ref C_Loop) = some true)
    (a__law_value : PySem.W.nsIn K mainGlobals "_law_value" = some (some (.ref f__law_value)))
    (l__law_value : K.lookup f__law_value = some ⟨oc10, od10, .func (PySem.W.fnOf "_law_value" "_law_value" (defArgs s__law_value) (defBody s__law_value) (defScope s__law_value) .none kV10 dc10 pm10 an10 cd10 ct10), sl10⟩)
    (co__law_value : PySem.W.codeIn K cd10 "_law_value" = true)
    (k__law_value : PySem.W.keepIn K (.ref f__law_value) = true)
    (a_Loop_iadd : PySem.W.findIn K (.ref C_Loop) "__iadd__" = some (some (.ref f_Loop_iadd)))
    (if_Loop_iadd : PySem.W.isFn K (.ref f_Loop_iadd) = true)
    (in_Loop_iadd : PySem.W.fnIn K f_Loop_iadd = true)
    (l_Loop_iadd : K.lookup f_Loop_iadd = some ⟨oc11, od11, .func (PySem.W.fnOf "__iadd__" "Loop.__iadd__" (defArgs s_Loop_iadd) (defBody s_Loop_iadd) (defScope s_Loop_iadd) .none kV11 dc11 pm11 an11 cd11 ct11), sl11⟩)
    (co_Loop_iadd : PySem.W.codeIn K cd11 "Loop.__iadd__" = true)
    (k_Loop_iadd : PySem.W.keepIn K (.ref f_Loop_iadd) = true)
    (a_with_statement : PySem.W.nsIn K mainGlobals "with_statement" = some (some (.ref f_with_statement)))
    (l_with_statement : K.lookup f_with_statement = some ⟨oc12, od12, .func (PySem.W.fnOf "with_statement" "with_statement" (defArgs s_with_statement) (defBody s_with_statement) (defScope s_with_statement) .none kV12 dc12 pm12 an12 cd12 ct12), sl12⟩)
    (co_with_statement : PySem.W.codeIn K cd12 "with_statement" = true)
    (k_with_statement : PySem.W.keepIn K (.ref f_with_statement) = true)
    (a_is_loop : PySem.W.nsIn K mainGlobals "is_loop" = some (some (.ref f_is_loop)))
    (l_is_loop : K.lookup f_is_loop = some ⟨oc13, od13, .func (PySem.W.fnOf "is_loop" "is_loop" (defArgs s_is_loop) (defBody s_is_loop) (defScope s_is_loop) .none kV13 dc13 pm13 an13 cd13 ct13), sl13⟩)
    (co_is_loop : PySem.W.codeIn K cd13 "is_loop" = true)
    (k_is_loop : PySem.W.keepIn K (.ref f_is_loop) = true)
    (v_MOST_STATEMENTS : PySem.W.nsIn K mainGlobals "MOST_STATEMENTS" = some (some (.int (12) t_MOST_STATEMENTS)))
    (v_MOST_DEEP : PySem.W.nsIn K mainGlobals "MOST_DEEP" = some (some (.int (3) t_MOST_DEEP)))
    (a_is_body : PySem.W.nsIn K mainGlobals "is_body" = some (some (.ref f_is_body)))
    (l_is_body : K.lookup f_is_body = some ⟨oc14, od14, .func (PySem.W.fnOf "is_body" "is_body" (defArgs s_is_body) (defBody s_is_body) (defScope s_is_body) .none kV14 dc14 pm14 an14 cd14 ct14), sl14⟩)
    (co_is_body : PySem.W.codeIn K cd14 "is_body" = true)
    (k_is_body : PySem.W.keepIn K (.ref f_is_body) = true)
    (z_all : PySem.W.nsIn K mainGlobals "all" = some none)
    (a_is_statement : PySem.W.nsIn K mainGlobals "is_statement" = some (some (.ref f_is_statement)))
    (l_is_statement : K.lookup f_is_statement = some ⟨oc15, od15, .func (PySem.W.fnOf "is_statement" "is_statement" (defArgs s_is_statement) (defBody s_is_statement) (defScope s_is_statement) .none kV15 dc15 pm15 an15 cd15 ct15), sl15⟩)
    (co_is_statement : PySem.W.codeIn K cd15 "is_statement" = true)
    (k_is_statement : PySem.W.keepIn K (.ref f_is_statement) = true)
    (a_is_counted : PySem.W.nsIn K mainGlobals "is_counted" = some (some (.ref f_is_counted)))
    (l_is_counted : K.lookup f_is_counted = some ⟨oc16, od16, .func (PySem.W.fnOf "is_counted" "is_counted" (defArgs s_is_counted) (defBody s_is_counted) (defScope s_is_counted) .none kV16 dc16 pm16 an16 cd16 ct16), sl16⟩)
    (co_is_counted : PySem.W.codeIn K cd16 "is_counted" = true)
    (k_is_counted : PySem.W.keepIn K (.ref f_is_counted) = true)
    (v_MOST_TIME : PySem.W.nsIn K mainGlobals "MOST_TIME" = some (some (.int (8) t_MOST_TIME)))
    (v_LEAST_NUMBERS : PySem.W.nsIn K mainGlobals "LEAST_NUMBERS" = some (some (.ref p_LEAST_NUMBERS)))
    (lk_LEAST_NUMBERS : K.lookup p_LEAST_NUMBERS = some ⟨.type "dict", none, .dict es_LEAST_NUMBERS n_LEAST_NUMBERS, #[]⟩)
    (kk_LEAST_NUMBERS : PySem.W.KeysLit w.params es_LEAST_NUMBERS.toList)
    (e0_LEAST_NUMBERS : PySem.W.nsIn K p_LEAST_NUMBERS "wait" = some (some (.int 1 te0_LEAST_NUMBERS)))
    (e1_LEAST_NUMBERS : PySem.W.nsIn K p_LEAST_NUMBERS "rest" = some (some (.int 1 te1_LEAST_NUMBERS)))
    (e2_LEAST_NUMBERS : PySem.W.nsIn K p_LEAST_NUMBERS "move" = some (some (.int 1 te2_LEAST_NUMBERS)))
    (e3_LEAST_NUMBERS : PySem.W.nsIn K p_LEAST_NUMBERS "ahead" = some (some (.int 1 te3_LEAST_NUMBERS)))
    (e4_LEAST_NUMBERS : PySem.W.nsIn K p_LEAST_NUMBERS "set" = some (some (.int 0 te4_LEAST_NUMBERS)))
    (e5_LEAST_NUMBERS : PySem.W.nsIn K p_LEAST_NUMBERS "late" = some (some (.int 0 te5_LEAST_NUMBERS)))
    (a_is_test : PySem.W.nsIn K mainGlobals "is_test" = some (some (.ref f_is_test)))
    (l_is_test : K.lookup f_is_test = some ⟨oc17, od17, .func (PySem.W.fnOf "is_test" "is_test" (defArgs s_is_test) (defBody s_is_test) (defScope s_is_test) .none kV17 dc17 pm17 an17 cd17 ct17), sl17⟩)
    (co_is_test : PySem.W.codeIn K cd17 "is_test" = true)
    (k_is_test : PySem.W.keepIn K (.ref f_is_test) = true)
    (a_is_worded : PySem.W.nsIn K mainGlobals "is_worded" = some (some (.ref f_is_worded)))
    (l_is_worded : K.lookup f_is_worded = some ⟨oc18, od18, .func (PySem.W.fnOf "is_worded" "is_worded" (defArgs s_is_worded) (defBody s_is_worded) (defScope s_is_worded) .none kV18 dc18 pm18 an18 cd18 ct18), sl18⟩)
    (co_is_worded : PySem.W.codeIn K cd18 "is_worded" = true)
    (k_is_worded : PySem.W.keepIn K (.ref f_is_worded) = true)
    (z_str : PySem.W.nsIn K mainGlobals "str" = some none)
    (z_tuple : PySem.W.nsIn K mainGlobals "tuple" = some none)
    (a_Loop_init : PySem.W.findIn K (.ref C_Loop) "__init__" = some (some (.ref f_Loop_init)))
    (if_Loop_init : PySem.W.isFn K (.ref f_Loop_init) = true)
    (l_Loop_init : K.lookup f_Loop_init = some ⟨oc19, od19, .func (PySem.W.fnOf "__init__" "Loop.__init__" (defArgs s_Loop_init) (defBody s_Loop_init) (defScope s_Loop_init) .none kV19 dc19 pm19 an19 cd19 ct19), sl19⟩)
    (co_Loop_init : PySem.W.codeIn K cd19 "Loop.__init__" = true)
    (k_Loop_init : PySem.W.keepIn K (.ref f_Loop_init) = true)
    (mk1_Loop : PySem.W.makesIn K C_Loop = true)
    (mk2_Loop : PySem.W.keepIn K (.ref C_Loop) = true)
    (pa_Loop_source : PySem.W.findIn K (.ref C_Loop) "source" = some (some (.ref pr_Loop_source)))
    (pg_Loop_source : PySem.W.specialIn K (.ref pr_Loop_source) "__get__" = some (some (.builtin "property.__get__")))
    (pt_Loop_source : PySem.W.takesIn K (.ref pr_Loop_source) = some true)
    (pc_Loop_source : PySem.W.recIn K pr_Loop_source "property" = some (.ref f_Loop_source :: pq_Loop_source))
    (l_Loop_source : K.lookup f_Loop_source = some ⟨oc20, od20, .func (PySem.W.fnOf "source" "Loop.source" (defArgs s_Loop_source) (defBody s_Loop_source) (defScope s_Loop_source) .none kV20 dc20 pm20 an20 cd20 ct20), sl20⟩)
    (co_Loop_source : PySem.W.codeIn K cd20 "Loop.source" = true)
    (k_Loop_source : PySem.W.keepIn K (.ref f_Loop_source) = true)
    (a__law_draw : PySem.W.nsIn K mainGlobals "_law_draw" = some (some (.ref f__law_draw)))
    (l__law_draw : K.lookup f__law_draw = some ⟨oc21, od21, .func (PySem.W.fnOf "_law_draw" "_law_draw" (defArgs s__law_draw) (defBody s__law_draw) (defScope s__law_draw) .none kV21 dc21 pm21 an21 cd21 ct21), sl21⟩)
    (co__law_draw : PySem.W.codeIn K cd21 "_law_draw" = true)
    (k__law_draw : PySem.W.keepIn K (.ref f__law_draw) = true)
    (a__law_change : PySem.W.nsIn K mainGlobals "_law_change" = some (some (.ref f__law_change)))
    (l__law_change : K.lookup f__law_change = some ⟨oc22, od22, .func (PySem.W.fnOf "_law_change" "_law_change" (defArgs s__law_change) (defBody s__law_change) (defScope s__law_change) .none kV22 dc22 pm22 an22 (.ref cc__law_change) ct22), sl22⟩)
    (co__law_change : PySem.W.codeIn K (.ref cc__law_change) "_law_change" = true)
    (k__law_change : PySem.W.keepIn K (.ref f__law_change) = true)
    (lc__law_change : K.lookup cc__law_change = some ⟨ck__law_change, co2__law_change, .fields cv__law_change, cs__law_change⟩)
    (vp__law_change : (cv__law_change[11]? : Option Value) = some (.ref ct__law_change))
    (hd__law_change : PySem.W.codeHdIn K cc__law_change ct__law_change = true)
    (nt__law_change : K.lookup ct__law_change = none)
    (a__law_timed : PySem.W.nsIn K mainGlobals "_law_timed" = some (some (.ref f__law_timed)))
    (l__law_timed : K.lookup f__law_timed = some ⟨oc23, od23, .func (PySem.W.fnOf "_law_timed" "_law_timed" (defArgs s__law_timed) (defBody s__law_timed) (defScope s__law_timed) .none kV23 dc23 pm23 an23 cd23 ct23), sl23⟩)
    (co__law_timed : PySem.W.codeIn K cd23 "_law_timed" = true)
    (k__law_timed : PySem.W.keepIn K (.ref f__law_timed) = true)
    (a_Loop_imul : PySem.W.findIn K (.ref C_Loop) "__imul__" = some (some (.ref f_Loop_imul)))
    (if_Loop_imul : PySem.W.isFn K (.ref f_Loop_imul) = true)
    (in_Loop_imul : PySem.W.fnIn K f_Loop_imul = true)
    (l_Loop_imul : K.lookup f_Loop_imul = some ⟨oc24, od24, .func (PySem.W.fnOf "__imul__" "Loop.__imul__" (defArgs s_Loop_imul) (defBody s_Loop_imul) (defScope s_Loop_imul) .none kV24 dc24 pm24 an24 cd24 ct24), sl24⟩)
    (co_Loop_imul : PySem.W.codeIn K cd24 "Loop.__imul__" = true)
    (k_Loop_imul : PySem.W.keepIn K (.ref f_Loop_imul) = true)
    (a_with_most : PySem.W.nsIn K mainGlobals "with_most" = some (some (.ref f_with_most)))
    (l_with_most : K.lookup f_with_most = some ⟨oc25, od25, .func (PySem.W.fnOf "with_most" "with_most" (defArgs s_with_most) (defBody s_with_most) (defScope s_with_most) .none kV25 dc25 pm25 an25 cd25 ct25), sl25⟩)
    (co_with_most : PySem.W.codeIn K cd25 "with_most" = true)
    (k_with_most : PySem.W.keepIn K (.ref f_with_most) = true)
    (a__law_of : PySem.W.nsIn K mainGlobals "_law_of" = some (some (.ref f__law_of)))
    (l__law_of : K.lookup f__law_of = some ⟨oc26, od26, .func (PySem.W.fnOf "_law_of" "_law_of" (defArgs s__law_of) (defBody s__law_of) (defScope s__law_of) .none kV26 dc26 pm26 an26 cd26 ct26), sl26⟩)
    (co__law_of : PySem.W.codeIn K cd26 "_law_of" = true)
    (k__law_of : PySem.W.keepIn K (.ref f__law_of) = true)
    (a__law_less : PySem.W.nsIn K mainGlobals "_law_less" = some (some (.ref f__law_less)))
    (l__law_less : K.lookup f__law_less = some ⟨oc27, od27, .func (PySem.W.fnOf "_law_less" "_law_less" (defArgs s__law_less) (defBody s__law_less) (defScope s__law_less) .none kV27 dc27 pm27 an27 cd27 ct27), sl27⟩)
    (co__law_less : PySem.W.codeIn K cd27 "_law_less" = true)
    (k__law_less : PySem.W.keepIn K (.ref f__law_less) = true)
    (a__law_cut : PySem.W.nsIn K mainGlobals "_law_cut" = some (some (.ref f__law_cut)))
    (l__law_cut : K.lookup f__law_cut = some ⟨oc28, od28, .func (PySem.W.fnOf "_law_cut" "_law_cut" (defArgs s__law_cut) (defBody s__law_cut) (defScope s__law_cut) .none kV28 dc28 pm28 an28 cd28 ct28), sl28⟩)
    (co__law_cut : PySem.W.codeIn K cd28 "_law_cut" = true)
    (k__law_cut : PySem.W.keepIn K (.ref f__law_cut) = true)
    (a__law_fewer : PySem.W.nsIn K mainGlobals "_law_fewer" = some (some (.ref f__law_fewer)))
    (l__law_fewer : K.lookup f__law_fewer = some ⟨oc29, od29, .func (PySem.W.fnOf "_law_fewer" "_law_fewer" (defArgs s__law_fewer) (defBody s__law_fewer) (defScope s__law_fewer) .none kV29 dc29 pm29 an29 cd29 ct29), sl29⟩)
    (co__law_fewer : PySem.W.codeIn K cd29 "_law_fewer" = true)
    (k__law_fewer : PySem.W.keepIn K (.ref f__law_fewer) = true)
    (a_Loop_isub : PySem.W.findIn K (.ref C_Loop) "__isub__" = some (some (.ref f_Loop_isub)))
    (if_Loop_isub : PySem.W.isFn K (.ref f_Loop_isub) = true)
    (in_Loop_isub : PySem.W.fnIn K f_Loop_isub = true)
    (l_Loop_isub : K.lookup f_Loop_isub = some ⟨oc30, od30, .func (PySem.W.fnOf "__isub__" "Loop.__isub__" (defArgs s_Loop_isub) (defBody s_Loop_isub) (defScope s_Loop_isub) .none kV30 dc30 pm30 an30 cd30 ct30), sl30⟩)
    (co_Loop_isub : PySem.W.codeIn K cd30 "Loop.__isub__" = true)
    (k_Loop_isub : PySem.W.keepIn K (.ref f_Loop_isub) = true)
    (a_less_number : PySem.W.nsIn K mainGlobals "less_number" = some (some (.ref f_less_number)))
    (l_less_number : K.lookup f_less_number = some ⟨oc31, od31, .func (PySem.W.fnOf "less_number" "less_number" (defArgs s_less_number) (defBody s_less_number) (defScope s_less_number) .none kV31 dc31 pm31 an31 cd31 ct31), sl31⟩)
    (co_less_number : PySem.W.codeIn K cd31 "less_number" = true)
    (k_less_number : PySem.W.keepIn K (.ref f_less_number) = true)
    (a_less_one : PySem.W.nsIn K mainGlobals "less_one" = some (some (.ref f_less_one)))
    (l_less_one : K.lookup f_less_one = some ⟨oc32, od32, .func (PySem.W.fnOf "less_one" "less_one" (defArgs s_less_one) (defBody s_less_one) (defScope s_less_one) .none kV32 dc32 pm32 an32 cd32 ct32), sl32⟩)
    (co_less_one : PySem.W.codeIn K cd32 "less_one" = true)
    (k_less_one : PySem.W.keepIn K (.ref f_less_one) = true)
    (a_body_without : PySem.W.nsIn K mainGlobals "body_without" = some (some (.ref f_body_without)))
    (l_body_without : K.lookup f_body_without = some ⟨oc33, od33, .func (PySem.W.fnOf "body_without" "body_without" (defArgs s_body_without) (defBody s_body_without) (defScope s_body_without) .none kV33 dc33 pm33 an33 cd33 ct33), sl33⟩)
    (co_body_without : PySem.W.codeIn K cd33 "body_without" = true)
    (k_body_without : PySem.W.keepIn K (.ref f_body_without) = true)
    (a__law_grown : PySem.W.nsIn K mainGlobals "_law_grown" = some (some (.ref f__law_grown)))
    (l__law_grown : K.lookup f__law_grown = some ⟨oc34, od34, .func (PySem.W.fnOf "_law_grown" "_law_grown" (defArgs s__law_grown) (defBody s__law_grown) (defScope s__law_grown) .none kV34 dc34 pm34 an34 cd34 ct34), sl34⟩)
    (co__law_grown : PySem.W.codeIn K cd34 "_law_grown" = true)
    (k__law_grown : PySem.W.keepIn K (.ref f__law_grown) = true)
    (a__law_simple : PySem.W.nsIn K mainGlobals "_law_simple" = some (some (.ref f__law_simple)))
    (l__law_simple : K.lookup f__law_simple = some ⟨oc35, od35, .func (PySem.W.fnOf "_law_simple" "_law_simple" (defArgs s__law_simple) (defBody s__law_simple) (defScope s__law_simple) .none kV35 dc35 pm35 an35 cd35 ct35), sl35⟩)
    (co__law_simple : PySem.W.codeIn K cd35 "_law_simple" = true)
    (k__law_simple : PySem.W.keepIn K (.ref f__law_simple) = true)
    (ic_InvalidStatement : PySem.W.isClsIn K C_InvalidStatement = true)
    (sb_InvalidStatement_InvalidStatement : PySem.W.subIn K (.ref C_InvalidStatement) (.ref C_InvalidStatement) = some true)
    (sb_InvalidNumber_InvalidStatement : PySem.W.subIn K (.ref C_InvalidNumber) (.ref C_InvalidStatement) = some false)
    (ic_InvalidNumber : PySem.W.isClsIn K C_InvalidNumber = true)
    (sb_InvalidNumber_InvalidNumber : PySem.W.subIn K (.ref C_InvalidNumber) (.ref C_InvalidNumber) = some true)
    (sb_InvalidLoop_InvalidStatement : PySem.W.subIn K (.ref C_InvalidLoop) (.ref C_InvalidStatement) = some false)
    (sb_InvalidLoop_InvalidNumber : PySem.W.subIn K (.ref C_InvalidLoop) (.ref C_InvalidNumber) = some false)
    (ic_InvalidLoop : PySem.W.isClsIn K C_InvalidLoop = true)
    (sb_InvalidLoop_InvalidLoop : PySem.W.subIn K (.ref C_InvalidLoop) (.ref C_InvalidLoop) = some true)
    (a__law_loop : PySem.W.nsIn K mainGlobals "_law_loop" = some (some (.ref f__law_loop)))
    (l__law_loop : K.lookup f__law_loop = some ⟨oc36, od36, .func (PySem.W.fnOf "_law_loop" "_law_loop" (defArgs s__law_loop) (defBody s__law_loop) (defScope s__law_loop) .none kV36 dc36 pm36 an36 cd36 ct36), sl36⟩)
    (co__law_loop : PySem.W.codeIn K cd36 "_law_loop" = true)
    (k__law_loop : PySem.W.keepIn K (.ref f__law_loop) = true)
    (a__law_bent : PySem.W.nsIn K mainGlobals "_law_bent" = some (some (.ref f__law_bent)))
    (l__law_bent : K.lookup f__law_bent = some ⟨oc37, od37, .func (PySem.W.fnOf "_law_bent" "_law_bent" (defArgs s__law_bent) (defBody s__law_bent) (defScope s__law_bent) .none kV37 dc37 pm37 an37 cd37 ct37), sl37⟩)
    (co__law_bent : PySem.W.codeIn K cd37 "_law_bent" = true)
    (k__law_bent : PySem.W.keepIn K (.ref f__law_bent) = true)
    (a__law_known : PySem.W.nsIn K mainGlobals "_law_known" = some (some (.ref f__law_known)))
    (l__law_known : K.lookup f__law_known = some ⟨oc38, od38, .func (PySem.W.fnOf "_law_known" "_law_known" (defArgs s__law_known) (defBody s__law_known) (defScope s__law_known) .none kV38 dc38 pm38 an38 cd38 ct38), sl38⟩)
    (co__law_known : PySem.W.codeIn K cd38 "_law_known" = true)
    (k__law_known : PySem.W.keepIn K (.ref f__law_known) = true)
    (a__law_body : PySem.W.nsIn K mainGlobals "_law_body" = some (some (.ref f__law_body)))
    (l__law_body : K.lookup f__law_body = some ⟨oc39, od39, .func (PySem.W.fnOf "_law_body" "_law_body" (defArgs s__law_body) (defBody s__law_body) (defScope s__law_body) .none kV39 dc39 pm39 an39 cd39 ct39), sl39⟩)
    (co__law_body : PySem.W.codeIn K cd39 "_law_body" = true)
    (k__law_body : PySem.W.keepIn K (.ref f__law_body) = true)
    (a__law_source : PySem.W.nsIn K mainGlobals "_law_source" = some (some (.ref f__law_source)))
    (l__law_source : K.lookup f__law_source = some ⟨oc40, od40, .func (PySem.W.fnOf "_law_source" "_law_source" (defArgs s__law_source) (defBody s__law_source) (defScope s__law_source) .none kV40 dc40 pm40 an40 cd40 ct40), sl40⟩)
    (co__law_source : PySem.W.codeIn K cd40 "_law_source" = true)
    (k__law_source : PySem.W.keepIn K (.ref f__law_source) = true)
    (z_abs : PySem.W.nsIn K mainGlobals "abs" = some none)
    (ne__law_change : (ct__law_change == ct_law) = false)
    (em_law : h.get? ct_law = some (PySem.W.tabObj #[]))
    (em__law_change : h.get? ct__law_change = some (PySem.W.tabObj #[]))
    : ∃ (fd : FuncData) (cs : List (Addr × Addr)) (sp : Sp), (∀ p ∈ cs, h.get? p.2 = some { cls := .none, data := .fields #[] }) ∧ (∀ p ∈ cs, K.lookup p.2 = none) ∧ (∀ p ∈ cs, PySem.W.CodeHd h p.1 p.2) ∧ (∀ (s : Shared) (v : Value), BindsTo s fd ⟨[v], []⟩ [("script", v)]) ∧
      (∀ (H : Hp) (a : Addr) (ns : List Int), ns.length ≤ 63 → (∀ z ∈ ns, Builtin.Int.intBits z ≤ 1048576) → (∀ p ∈ cs, H p.2 = some (.tbl #[])) → SqL K H a (ns.map V.int) → sp [.ref a] H (fun v _ => v = .bl true) fun _ _ _ => False) ∧
      ∀ base : Heap, K.In base → base.Ns mainGlobals mg → (∀ p ∈ cs, LamX.TabB base mg p.1 p.2) → FnOk P w K mg base (L2.CX P w) 22 fa fd ["script"] sp := by
  have e := hfa.symm.trans (PySem.W.mg_of X G a_law)
  cases e
  refine ⟨PySem.W.fnOf "law" "law" (defArgs s_law) (defBody s_law) (defScope s_law) .none kV0 dc0 pm0 an0 (.ref cc_law) ct0, [(cc_law, ct_law), (cc__law_change, ct__law_change)], spZ (spP K 1 (φ_law20 ct_law ct__law_change)), List.forall_mem_cons.mpr ⟨em_law, List.forall_mem_cons.mpr ⟨em__law_change, fun _ h => nomatch h⟩⟩, List.forall_mem_cons.mpr ⟨nt_law, List.forall_mem_cons.mpr ⟨nt__law_change, fun _ h => nomatch h⟩⟩, List.forall_mem_cons.mpr ⟨PySem.W.codeHd_of_K X hd_law, List.forall_mem_cons.mpr ⟨PySem.W.codeHd_of_K X hd__law_change, fun _ h => nomatch h⟩⟩, fun s v => .of_eq rfl, fun H a ns hl _ hT hS => law_spT (ts := [(ct_law, lamQ "law"), (ct__law_change, lamQ "_law_change")]) (fun ds Q E e q => by subst e; exact ⟨ns, rfl, hl, ⟨by simp [tabW, List.lookup_cons, ne__law_change], by simp [tabW, List.lookup_cons, ne__law_change]⟩, q⟩) (fun p hp => ?_) hS, fun base _ _ hB => ?_⟩
  · simp only [List.mem_cons, List.not_mem_nil, or_false] at hp
    rcases hp with rfl | rfl
    · exact hT (cc_law, ct_law) (by simp)
    · exact hT (cc__law_change, ct__law_change) (by simp)
  have t_law : LamX.TabB base mg cc_law ct_law := hB (cc_law, ct_law) (by simp)
  have t__law_change : LamX.TabB base mg cc__law_change ct__law_change := hB (cc__law_change, ct__law_change) (by simp)
  have F_law : FunC K "law" "law" s_law _ _ cc_law := ⟨⟨_, _, _, _, _, _, _, _, rfl, l_law, co_law⟩, k_law⟩
  have m_range : mg "range" = none := PySem.W.mg_none_of X G z_range
  have m_min : mg "min" = none := PySem.W.mg_none_of X G z_min
  have m_len : mg "len" = none := PySem.W.mg_none_of X G z_len
  have F__law_size := fun_mk (st := s__law_size) l__law_size co__law_size k__law_size
  have T__law_size : TopD K mg "_law_size" ["body"] s__law_size := ⟨f__law_size, _, F__law_size, PySem.W.mg_of X G a__law_size, F__law_size.binds (ps := ["body"]) fun _ _ _ _ _ _ us hl => match us, hl with | [_], _ => rfl⟩
  have c__law_size_0 := ok__law_size (P := P) (w := w) (base := base) (k := 0) (d := 0) T__law_size (c__law_size := (low_none T__law_size rfl fun _ _ _ _ h => absurd h.1 (by decide)))
  have c__law_size_1 := ok__law_size (P := P) (w := w) (base := base) (k := 1) (d := 1) T__law_size (c__law_size := (c__law_size_0.up (by decide) |>.wk fun _ _ _ _ h => h.2))
  have c__law_size_2 := ok__law_size (P := P) (w := w) (base := base) (k := 2) (d := 2) T__law_size (c__law_size := (c__law_size_1.up (by decide) |>.wk fun _ _ _ _ h => h.2))
  have c__law_size_3 := ok__law_size (P := P) (w := w) (base := base) (k := 3) (d := 3) T__law_size (c__law_size := (c__law_size_2.up (by decide) |>.wk fun _ _ _ _ h => h.2))
  have x_InvalidStatement : ExC K mg "InvalidStatement" C_InvalidStatement := ⟨PySem.W.mg_of X G aE_InvalidStatement, xE_InvalidStatement, kE_InvalidStatement, bE_InvalidStatement, tE_InvalidStatement⟩
  have x_InvalidNumber : ExC K mg "InvalidNumber" C_InvalidNumber := ⟨PySem.W.mg_of X G aE_InvalidNumber, xE_InvalidNumber, kE_InvalidNumber, bE_InvalidNumber, tE_InvalidNumber⟩
  have x_InvalidLoop : ExC K mg "InvalidLoop" C_InvalidLoop := ⟨PySem.W.mg_of X G aE_InvalidLoop, xE_InvalidLoop, kE_InvalidLoop, bE_InvalidLoop, tE_InvalidLoop⟩
  have x_PaceError : ExC K mg "PaceError" C_PaceError := ⟨PySem.W.mg_of X G aE_PaceError, xE_PaceError, kE_PaceError, bE_PaceError, tE_PaceError⟩
  have F__law_word := fun_mk (st := s__law_word) l__law_word co__law_word k__law_word
  have T__law_word : TopD K mg "_law_word" ["call"] s__law_word := ⟨f__law_word, _, F__law_word, PySem.W.mg_of X G a__law_word, F__law_word.binds (ps := ["call"]) fun _ _ _ _ _ _ us hl => match us, hl with | [_], _ => rfl⟩
  have w__law_word := wd__law_word T__law_word x_InvalidStatement x_InvalidNumber x_InvalidLoop x_PaceError
  have F_Loop_getitem := fun_mk (st := s_Loop_getitem) l_Loop_getitem co_Loop_getitem k_Loop_getitem
  have n_Loop_base : NoAttr K C_Loop "base" := na_Loop_base
  have i_Loop : InC K C_Loop := ⟨⟨i1_Loop, i2_Loop, i3_Loop, i4_Loop⟩, i5_Loop⟩
  have F_words_of := fun_mk (st := s_words_of) l_words_of co_words_of k_words_of
  have T_words_of : TopD K mg "words_of" ["loop"] s_words_of := ⟨f_words_of, _, F_words_of, PySem.W.mg_of X G a_words_of, F_words_of.binds (ps := ["loop"]) fun _ _ _ _ _ _ us hl => match us, hl with | [_], _ => rfl⟩
  have F_listed := fun_mk (st := s_listed) l_listed co_listed k_listed
  have T_listed : TopD K mg "listed" ["body"] s_listed := ⟨f_listed, _, F_listed, PySem.W.mg_of X G a_listed, F_listed.binds (ps := ["body"]) fun _ _ _ _ _ _ us hl => match us, hl with | [_], _ => rfl⟩
  have F_bodies_of := fun_mk (st := s_bodies_of) l_bodies_of co_bodies_of k_bodies_of
  have T_bodies_of : TopD K mg "bodies_of" ["statement"] s_bodies_of := ⟨f_bodies_of, _, F_bodies_of, PySem.W.mg_of X G a_bodies_of, F_bodies_of.binds (ps := ["statement"]) fun _ _ _ _ _ _ us hl => match us, hl with | [_], _ => rfl⟩
  have m_list : mg "list" = none := PySem.W.mg_none_of X G z_list
  have c_bodies_of := ok_bodies_of (P := P) (w := w) (base := base) (k := 0) T_bodies_of (m_list := m_list)
  have c_listed_0 := ok_listed (P := P) (w := w) (base := base) (k := 1) (d := 0) T_listed (c_bodies_of := (c_bodies_of.up (by decide))) (c_listed := (low_none T_listed rfl fun _ _ _ _ h => absurd h.1 (by decide))) (hd := (by decide))
  have c_listed_1 := ok_listed (P := P) (w := w) (base := base) (k := 2) (d := 1) T_listed (c_bodies_of := (c_bodies_of.up (by decide))) (c_listed := (c_listed_0.up (by decide) |>.wk fun _ _ _ _ h => h.2)) (hd := (by decide))
  have c_listed_2 := ok_listed (P := P) (w := w) (base := base) (k := 3) (d := 2) T_listed (c_bodies_of := (c_bodies_of.up (by decide))) (c_listed := (c_listed_1.up (by decide) |>.wk fun _ _ _ _ h => h.2)) (hd := (by decide))
  have c_listed_3 := ok_listed (P := P) (w := w) (base := base) (k := 4) (d := 3) T_listed (c_bodies_of := (c_bodies_of.up (by decide))) (c_listed := (c_listed_2.up (by decide) |>.wk fun _ _ _ _ h => h.2)) (hd := (by decide))
  have c_words_of := ok_words_of (P := P) (w := w) (base := base) (k := 5) T_words_of (c_listed := (c_listed_3.up (by decide)))
  have F_need_statement_number := fun_mk (st := s_need_statement_number) l_need_statement_number co_need_statement_number k_need_statement_number
  have T_need_statement_number : TopD K mg "need_statement_number" ["loop", "value"] s_need_statement_number := ⟨f_need_statement_number, _, F_need_statement_number, PySem.W.mg_of X G a_need_statement_number, F_need_statement_number.binds (ps := ["loop", "value"]) fun _ _ _ _ _ _ us hl => match us, hl with | [_, _], _ => rfl⟩
  have F_is_number := fun_mk (st := s_is_number) l_is_number co_is_number k_is_number
  have T_is_number : TopD K mg "is_number" ["value", "least", "most"] s_is_number := ⟨f_is_number, _, F_is_number, PySem.W.mg_of X G a_is_number, F_is_number.binds (ps := ["value", "least", "most"]) fun _ _ _ _ _ _ us hl => match us, hl with | [_, _, _], _ => rfl⟩
  have m_isinstance : mg "isinstance" = none := PySem.W.mg_none_of X G z_isinstance
  have m_bool : mg "bool" = none := PySem.W.mg_none_of X G z_bool
  have m_int : mg "int" = none := PySem.W.mg_none_of X G z_int
  have c_is_number := ok_is_number (P := P) (w := w) (base := base) (k := 0) T_is_number (m_isinstance := m_isinstance) (m_bool := m_bool) (m_int := m_int)
  have c_need_statement_number := ok_need_statement_number (P := P) (w := w) (base := base) (k := 5) T_need_statement_number (m_len := m_len) (c_listed := (c_listed_3.up (by decide))) (c_is_number := (c_is_number.up (by decide))) (x_InvalidNumber := x_InvalidNumber)
  have c_Loop_getitem : MetF P w K mg base C_Loop "__getitem__" 2 7 _ := ⟨f_Loop_getitem, a_Loop_getitem, if_Loop_getitem, in_Loop_getitem, ok_Loop_getitem (P := P) (w := w) (base := base) (k := 6) F_Loop_getitem (n_Loop_base := n_Loop_base) (i_Loop := i_Loop) (c_words_of := (c_words_of.up (by decide))) (c_need_statement_number := (c_need_statement_number.up (by decide)))⟩
  have F_Loop_eq := fun_mk (st := s_Loop_eq) l_Loop_eq co_Loop_eq k_Loop_eq
  have is_Loop : C8.InsC K C_Loop := ⟨i_Loop.cl, ha_Loop, hn_0, ht_0, hm_Loop, kit_of ic_Loop tE_Loop sb_Loop_Loop⟩
  have gc_Loop : mg "Loop" = some (.ref C_Loop) := PySem.W.mg_of X G ac_Loop
  have c_Loop_eq : MetF P w K mg base C_Loop "__eq__" 2 1 _ := ⟨f_Loop_eq, a_Loop_eq, if_Loop_eq, in_Loop_eq, ok_Loop_eq (P := P) (w := w) (base := base) (k := 0) F_Loop_eq (n_Loop_base := n_Loop_base) (i_Loop := i_Loop) (is_Loop := is_Loop) (m_isinstance := m_isinstance) (gc_Loop := gc_Loop)⟩
  have F__law_value := fun_mk (st := s__law_value) l__law_value co__law_value k__law_value
  have T__law_value : TopD K mg "_law_value" ["loop"] s__law_value := ⟨f__law_value, _, F__law_value, PySem.W.mg_of X G a__law_value, F__law_value.binds (ps := ["loop"]) fun _ _ _ _ _ _ us hl => match us, hl with | [_], _ => rfl⟩
  have F_Loop_iadd := fun_mk (st := s_Loop_iadd) l_Loop_iadd co_Loop_iadd k_Loop_iadd
  have F_with_statement := fun_mk (st := s_with_statement) l_with_statement co_with_statement k_with_statement
  have T_with_statement : TopD K mg "with_statement" ["loop", "statement"] s_with_statement := ⟨f_with_statement, _, F_with_statement, PySem.W.mg_of X G a_with_statement, F_with_statement.binds (ps := ["loop", "statement"]) fun _ _ _ _ _ _ us hl => match us, hl with | [_, _], _ => rfl⟩
  have F_is_loop := fun_mk (st := s_is_loop) l_is_loop co_is_loop k_is_loop
  have T_is_loop : TopD K mg "is_loop" ["value"] s_is_loop := ⟨f_is_loop, _, F_is_loop, PySem.W.mg_of X G a_is_loop, F_is_loop.binds (ps := ["value"]) fun _ _ _ _ _ _ us hl => match us, hl with | [_], _ => rfl⟩
  have g_MOST_STATEMENTS : GI mg "MOST_STATEMENTS" 12 := ⟨_, PySem.W.mg_of X G v_MOST_STATEMENTS⟩
  have g_MOST_DEEP : GI mg "MOST_DEEP" 3 := ⟨_, PySem.W.mg_of X G v_MOST_DEEP⟩
  have F_is_body := fun_mk (st := s_is_body) l_is_body co_is_body k_is_body
  have T_is_body : TopD K mg "is_body" ["value", "deep"] s_is_body := ⟨f_is_body, _, F_is_body, PySem.W.mg_of X G a_is_body, F_is_body.binds (ps := ["value", "deep"]) fun _ _ _ _ _ _ us hl => match us, hl with | [_, _], _ => rfl⟩
  have m_all : mg "all" = none := PySem.W.mg_none_of X G z_all
  have F_is_statement := fun_mk (st := s_is_statement) l_is_statement co_is_statement k_is_statement
  have T_is_statement : TopD K mg "is_statement" ["value", "deep"] s_is_statement := ⟨f_is_statement, _, F_is_statement, PySem.W.mg_of X G a_is_statement, F_is_statement.binds (ps := ["value", "deep"]) fun _ _ _ _ _ _ us hl => match us, hl with | [_, _], _ => rfl⟩
  have F_is_counted := fun_mk (st := s_is_counted) l_is_counted co_is_counted k_is_counted
  have T_is_counted : TopD K mg "is_counted" ["value", "words"] s_is_counted := ⟨f_is_counted, _, F_is_counted, PySem.W.mg_of X G a_is_counted, F_is_counted.binds (ps := ["value", "words"]) fun _ _ _ _ _ _ us hl => match us, hl with | [_, _], _ => rfl⟩
  have g_MOST_TIME : GI mg "MOST_TIME" 8 := ⟨_, PySem.W.mg_of X G v_MOST_TIME⟩
  have g_LEAST_NUMBERS : GT K w mg "LEAST_NUMBERS" tab_LEAST_NUMBERS := gt_of (PySem.W.mg_of X G v_LEAST_NUMBERS) fun zd hz => by
    simp only [tab_LEAST_NUMBERS, List.mem_cons, List.not_mem_nil, or_false] at hz
    rcases hz with rfl | rfl | rfl | rfl | rfl | rfl
    · exact ⟨.int 1, ⟨es_LEAST_NUMBERS, n_LEAST_NUMBERS, _, lk_LEAST_NUMBERS, kk_LEAST_NUMBERS, e0_LEAST_NUMBERS, ⟨_, rfl⟩⟩, fun _ => .int _⟩
    · exact ⟨.int 1, ⟨es_LEAST_NUMBERS, n_LEAST_NUMBERS, _, lk_LEAST_NUMBERS, kk_LEAST_NUMBERS, e1_LEAST_NUMBERS, ⟨_, rfl⟩⟩, fun _ => .int _⟩
    · exact ⟨.int 1, ⟨es_LEAST_NUMBERS, n_LEAST_NUMBERS, _, lk_LEAST_NUMBERS, kk_LEAST_NUMBERS, e2_LEAST_NUMBERS, ⟨_, rfl⟩⟩, fun _ => .int _⟩
    · exact ⟨.int 1, ⟨es_LEAST_NUMBERS, n_LEAST_NUMBERS, _, lk_LEAST_NUMBERS, kk_LEAST_NUMBERS, e3_LEAST_NUMBERS, ⟨_, rfl⟩⟩, fun _ => .int _⟩
    · exact ⟨.int 0, ⟨es_LEAST_NUMBERS, n_LEAST_NUMBERS, _, lk_LEAST_NUMBERS, kk_LEAST_NUMBERS, e4_LEAST_NUMBERS, ⟨_, rfl⟩⟩, fun _ => .int _⟩
    · exact ⟨.int 0, ⟨es_LEAST_NUMBERS, n_LEAST_NUMBERS, _, lk_LEAST_NUMBERS, kk_LEAST_NUMBERS, e5_LEAST_NUMBERS, ⟨_, rfl⟩⟩, fun _ => .int _⟩
  have c_is_counted := ok_is_counted (P := P) (w := w) (base := base) (k := 1) T_is_counted (g_MOST_TIME := g_MOST_TIME) (g_LEAST_NUMBERS := g_LEAST_NUMBERS) (c_is_number := (c_is_number.up (by decide))) (m_len := m_len)
  have F_is_test := fun_mk (st := s_is_test) l_is_test co_is_test k_is_test
  have T_is_test : TopD K mg "is_test" ["value"] s_is_test := ⟨f_is_test, _, F_is_test, PySem.W.mg_of X G a_is_test, F_is_test.binds (ps := ["value"]) fun _ _ _ _ _ _ us hl => match us, hl with | [_], _ => rfl⟩
  have F_is_worded := fun_mk (st := s_is_worded) l_is_worded co_is_worded k_is_worded
  have T_is_worded : TopD K mg "is_worded" ["value"] s_is_worded := ⟨f_is_worded, _, F_is_worded, PySem.W.mg_of X G a_is_worded, F_is_worded.binds (ps := ["value"]) fun _ _ _ _ _ _ us hl => match us, hl with | [_], _ => rfl⟩
  have m_str : mg "str" = none := PySem.W.mg_none_of X G z_str
  have m_tuple : mg "tuple" = none := PySem.W.mg_none_of X G z_tuple
  have c_is_worded := ok_is_worded (P := P) (w := w) (base := base) (k := 0) T_is_worded (m_isinstance := m_isinstance) (m_str := m_str) (m_tuple := m_tuple)
  have c_is_test := ok_is_test (P := P) (w := w) (base := base) (k := 2) T_is_test (c_is_counted := (c_is_counted.up (by decide))) (c_is_worded := (c_is_worded.up (by decide)))
  have c_is_statement_0 := ok_is_statement (P := P) (w := w) (base := base) (k := 3) (d := 0) T_is_statement (c_is_counted := (c_is_counted.up (by decide))) (m_all := m_all) (c_is_body := (low_none T_is_body rfl fun _ _ _ _ h => h)) (c_is_test := (c_is_test.up (by decide))) (m_len := m_len) (c_is_worded := (c_is_worded.up (by decide)))
  have c_is_body_0 := ok_is_body (P := P) (w := w) (base := base) (k := 4) (d := 0) T_is_body (m_all := m_all) (c_is_statement := (c_is_statement_0.up (by decide))) (m_len := m_len) (m_isinstance := m_isinstance) (m_tuple := m_tuple)
  have c_is_statement_1 := ok_is_statement (P := P) (w := w) (base := base) (k := 5) (d := 1) T_is_statement (c_is_counted := (c_is_counted.up (by decide))) (m_all := m_all) (c_is_body := (c_is_body_0.up (by decide))) (c_is_test := (c_is_test.up (by decide))) (m_len := m_len) (c_is_worded := (c_is_worded.up (by decide)))
  have c_is_body_1 := ok_is_body (P := P) (w := w) (base := base) (k := 6) (d := 1) T_is_body (m_all := m_all) (c_is_statement := (c_is_statement_1.up (by decide))) (m_len := m_len) (m_isinstance := m_isinstance) (m_tuple := m_tuple)
  have c_is_statement_2 := ok_is_statement (P := P) (w := w) (base := base) (k := 7) (d := 2) T_is_statement (c_is_counted := (c_is_counted.up (by decide))) (m_all := m_all) (c_is_body := (c_is_body_1.up (by decide))) (c_is_test := (c_is_test.up (by decide))) (m_len := m_len) (c_is_worded := (c_is_worded.up (by decide)))
  have c_is_body_2 := ok_is_body (P := P) (w := w) (base := base) (k := 8) (d := 2) T_is_body (m_all := m_all) (c_is_statement := (c_is_statement_2.up (by decide))) (m_len := m_len) (m_isinstance := m_isinstance) (m_tuple := m_tuple)
  have c_is_statement_3 := ok_is_statement (P := P) (w := w) (base := base) (k := 9) (d := 3) T_is_statement (c_is_counted := (c_is_counted.up (by decide))) (m_all := m_all) (c_is_body := (c_is_body_2.up (by decide))) (c_is_test := (c_is_test.up (by decide))) (m_len := m_len) (c_is_worded := (c_is_worded.up (by decide)))
  have c_is_body_3 := ok_is_body (P := P) (w := w) (base := base) (k := 10) (d := 3) T_is_body (m_all := m_all) (c_is_statement := (c_is_statement_3.up (by decide))) (m_len := m_len) (m_isinstance := m_isinstance) (m_tuple := m_tuple)
  have c_is_loop := ok_is_loop (P := P) (w := w) (base := base) (k := 11) T_is_loop (m_len := m_len) (c_listed := (c_listed_3.up (by decide))) (g_MOST_STATEMENTS := g_MOST_STATEMENTS) (g_MOST_DEEP := g_MOST_DEEP) (c_is_body := (c_is_body_3.up (by decide))) (m_all := m_all) (g_MOST_TIME := g_MOST_TIME) (c_is_number := (c_is_number.up (by decide))) (m_isinstance := m_isinstance) (m_tuple := m_tuple)
  have c_with_statement := ok_with_statement (P := P) (w := w) (base := base) (k := 12) T_with_statement (c_is_loop := (c_is_loop.up (by decide))) (x_InvalidStatement := x_InvalidStatement)
  have c_Loop_iadd : MetF P w K mg base C_Loop "__iadd__" 2 14 _ := ⟨f_Loop_iadd, a_Loop_iadd, if_Loop_iadd, in_Loop_iadd, ok_Loop_iadd (P := P) (w := w) (base := base) (k := 13) F_Loop_iadd (n_Loop_base := n_Loop_base) (i_Loop := i_Loop) (c_with_statement := (c_with_statement.up (by decide)))⟩
  have F_Loop_init := fun_mk (st := s_Loop_init) l_Loop_init co_Loop_init k_Loop_init
  have mk_Loop : MkF P w K mg base "Loop" C_Loop 13 _ := ⟨f_Loop_init, ⟨mk1_Loop, a_Loop_init, if_Loop_init, mk2_Loop⟩, PySem.W.mg_of X G ac_Loop, ok_Loop_init (P := P) (w := w) (base := base) (k := 12) F_Loop_init (n_Loop_base := n_Loop_base) (i_Loop := i_Loop) (c_is_loop := (c_is_loop.up (by decide))) (x_InvalidLoop := x_InvalidLoop)⟩
  have c__law_value := ok__law_value (P := P) (w := w) (base := base) (k := 14) T__law_value (i_Loop := i_Loop) (c_Loop_iadd := (c_Loop_iadd.up (by decide))) (mk_Loop := (mk_Loop.up (by decide)))
  have F_Loop_source := fun_mk (st := s_Loop_source) l_Loop_source co_Loop_source k_Loop_source
  have p_Loop_source : PropF P w K mg base C_Loop "source" 1 _ := ⟨pr_Loop_source, f_Loop_source, ⟨pa_Loop_source, pg_Loop_source, pt_Loop_source, _, pc_Loop_source⟩, ok_Loop_source (P := P) (w := w) (base := base) (k := 0) F_Loop_source (n_Loop_base := n_Loop_base) (i_Loop := i_Loop)⟩
  have F__law_draw := fun_mk (st := s__law_draw) l__law_draw co__law_draw k__law_draw
  have T__law_draw : TopD K mg "_law_draw" ["source", "many"] s__law_draw := ⟨f__law_draw, _, F__law_draw, PySem.W.mg_of X G a__law_draw, F__law_draw.binds (ps := ["source", "many"]) fun _ _ _ _ _ _ us hl => match us, hl with | [_, _], _ => rfl⟩
  have c__law_draw := ok__law_draw (P := P) (w := w) (base := base) (k := 0) T__law_draw (m_int := m_int)
  have F__law_change : FunC K "_law_change" "_law_change" s__law_change _ _ cc__law_change := ⟨⟨_, _, _, _, _, _, _, _, rfl, l__law_change, co__law_change⟩, k__law_change⟩
  have T__law_change : TopC K mg "_law_change" ["source", "value", "now"] s__law_change cc__law_change := ⟨f__law_change, _, F__law_change, PySem.W.mg_of X G a__law_change, F__law_change.fun.binds (ps := ["source", "value", "now"]) fun _ _ _ _ _ _ us hl => match us, hl with | [_, _, _], _ => rfl⟩
  have F__law_timed := fun_mk (st := s__law_timed) l__law_timed co__law_timed k__law_timed
  have T__law_timed : TopD K mg "_law_timed" ["value", "most"] s__law_timed := ⟨f__law_timed, _, F__law_timed, PySem.W.mg_of X G a__law_timed, F__law_timed.binds (ps := ["value", "most"]) fun _ _ _ _ _ _ us hl => match us, hl with | [_, _], _ => rfl⟩
  have F_Loop_imul := fun_mk (st := s_Loop_imul) l_Loop_imul co_Loop_imul k_Loop_imul
  have F_with_most := fun_mk (st := s_with_most) l_with_most co_with_most k_with_most
  have T_with_most : TopD K mg "with_most" ["loop", "most"] s_with_most := ⟨f_with_most, _, F_with_most, PySem.W.mg_of X G a_with_most, F_with_most.binds (ps := ["loop", "most"]) fun _ _ _ _ _ _ us hl => match us, hl with | [_, _], _ => rfl⟩
  have c_with_most := ok_with_most (P := P) (w := w) (base := base) (k := 12) T_with_most (c_is_loop := (c_is_loop.up (by decide))) (x_InvalidLoop := x_InvalidLoop)
  have c_Loop_imul : MetF P w K mg base C_Loop "__imul__" 2 14 _ := ⟨f_Loop_imul, a_Loop_imul, if_Loop_imul, in_Loop_imul, ok_Loop_imul (P := P) (w := w) (base := base) (k := 13) F_Loop_imul (n_Loop_base := n_Loop_base) (i_Loop := i_Loop) (c_with_most := (c_with_most.up (by decide)))⟩
  have c__law_timed := ok__law_timed (P := P) (w := w) (base := base) (k := 14) T__law_timed (i_Loop := i_Loop) (c_Loop_imul := (c_Loop_imul.up (by decide)))
  have F__law_of := fun_mk (st := s__law_of) l__law_of co__law_of k__law_of
  have T__law_of : TopD K mg "_law_of" ["source", "items"] s__law_of := ⟨f__law_of, _, F__law_of, PySem.W.mg_of X G a__law_of, F__law_of.binds (ps := ["source", "items"]) fun _ _ _ _ _ _ us hl => match us, hl with | [_, _], _ => rfl⟩
  have c__law_of := ok__law_of (P := P) (w := w) (base := base) (k := 1) T__law_of (m_len := m_len) (c__law_draw := (c__law_draw.up (by decide)))
  have F__law_less := fun_mk (st := s__law_less) l__law_less co__law_less k__law_less
  have T__law_less : TopD K mg "_law_less" ["loop", "number"] s__law_less := ⟨f__law_less, _, F__law_less, PySem.W.mg_of X G a__law_less, F__law_less.binds (ps := ["loop", "number"]) fun _ _ _ _ _ _ us hl => match us, hl with | [_, _], _ => rfl⟩
  have F__law_cut := fun_mk (st := s__law_cut) l__law_cut co__law_cut k__law_cut
  have T__law_cut : TopD K mg "_law_cut" ["body", "first", "gone"] s__law_cut := ⟨f__law_cut, _, F__law_cut, PySem.W.mg_of X G a__law_cut, F__law_cut.binds (ps := ["body", "first", "gone"]) fun _ _ _ _ _ _ us hl => match us, hl with | [_, _, _], _ => rfl⟩
  have c__law_cut_0 := ok__law_cut (P := P) (w := w) (base := base) (k := 1) (d := 0) T__law_cut (c__law_cut := (low_none T__law_cut rfl fun _ _ _ _ h => absurd h.1 (by decide))) (c__law_size := (c__law_size_0.up (by decide)))
  have c__law_cut_1 := ok__law_cut (P := P) (w := w) (base := base) (k := 2) (d := 1) T__law_cut (c__law_cut := (c__law_cut_0.up (by decide) |>.wk fun _ _ _ _ h => h.2)) (c__law_size := (c__law_size_1.up (by decide)))
  have c__law_cut_2 := ok__law_cut (P := P) (w := w) (base := base) (k := 3) (d := 2) T__law_cut (c__law_cut := (c__law_cut_1.up (by decide) |>.wk fun _ _ _ _ h => h.2)) (c__law_size := (c__law_size_2.up (by decide)))
  have c__law_cut_3 := ok__law_cut (P := P) (w := w) (base := base) (k := 4) (d := 3) T__law_cut (c__law_cut := (c__law_cut_2.up (by decide) |>.wk fun _ _ _ _ h => h.2)) (c__law_size := (c__law_size_3.up (by decide)))
  have c__law_less := ok__law_less (P := P) (w := w) (base := base) (k := 5) T__law_less (c__law_cut := (c__law_cut_3.up (by decide)))
  have F__law_fewer := fun_mk (st := s__law_fewer) l__law_fewer co__law_fewer k__law_fewer
  have T__law_fewer : TopD K mg "_law_fewer" ["value", "number"] s__law_fewer := ⟨f__law_fewer, _, F__law_fewer, PySem.W.mg_of X G a__law_fewer, F__law_fewer.binds (ps := ["value", "number"]) fun _ _ _ _ _ _ us hl => match us, hl with | [_, _], _ => rfl⟩
  have F_Loop_isub := fun_mk (st := s_Loop_isub) l_Loop_isub co_Loop_isub k_Loop_isub
  have F_less_number := fun_mk (st := s_less_number) l_less_number co_less_number k_less_number
  have T_less_number : TopD K mg "less_number" ["loop", "number"] s_less_number := ⟨f_less_number, _, F_less_number, PySem.W.mg_of X G a_less_number, F_less_number.binds (ps := ["loop", "number"]) fun _ _ _ _ _ _ us hl => match us, hl with | [_, _], _ => rfl⟩
  have F_less_one := fun_mk (st := s_less_one) l_less_one co_less_one k_less_one
  have T_less_one : TopD K mg "less_one" ["loop", "number"] s_less_one := ⟨f_less_one, _, F_less_one, PySem.W.mg_of X G a_less_one, F_less_one.binds (ps := ["loop", "number"]) fun _ _ _ _ _ _ us hl => match us, hl with | [_, _], _ => rfl⟩
  have F_body_without := fun_mk (st := s_body_without) l_body_without co_body_without k_body_without
  have T_body_without : TopD K mg "body_without" ["body", "first", "gone"] s_body_without := ⟨f_body_without, _, F_body_without, PySem.W.mg_of X G a_body_without, F_body_without.binds (ps := ["body", "first", "gone"]) fun _ _ _ _ _ _ us hl => match us, hl with | [_, _, _], _ => rfl⟩
  have c_body_without_0 := ok_body_without (P := P) (w := w) (base := base) (k := 2) (d := 0) T_body_without (c_bodies_of := (c_bodies_of.up (by decide))) (m_len := m_len) (c_listed := (c_listed_0.up (by decide))) (c_body_without := (low_none T_body_without rfl fun _ _ _ _ h => absurd h.1 (by decide))) (hd := (by decide))
  have c_body_without_1 := ok_body_without (P := P) (w := w) (base := base) (k := 3) (d := 1) T_body_without (c_bodies_of := (c_bodies_of.up (by decide))) (m_len := m_len) (c_listed := (c_listed_0.up (by decide))) (c_body_without := (c_body_without_0.up (by decide) |>.wk fun _ _ _ _ h => h.2)) (hd := (by decide))
  have c_body_without_2 := ok_body_without (P := P) (w := w) (base := base) (k := 4) (d := 2) T_body_without (c_bodies_of := (c_bodies_of.up (by decide))) (m_len := m_len) (c_listed := (c_listed_1.up (by decide))) (c_body_without := (c_body_without_1.up (by decide) |>.wk fun _ _ _ _ h => h.2)) (hd := (by decide))
  have c_body_without_3 := ok_body_without (P := P) (w := w) (base := base) (k := 5) (d := 3) T_body_without (c_bodies_of := (c_bodies_of.up (by decide))) (m_len := m_len) (c_listed := (c_listed_2.up (by decide))) (c_body_without := (c_body_without_2.up (by decide) |>.wk fun _ _ _ _ h => h.2)) (hd := (by decide))
  have c_less_one := ok_less_one (P := P) (w := w) (base := base) (k := 6) T_less_one (c_body_without := (c_body_without_3.up (by decide)))
  have c_less_number := ok_less_number (P := P) (w := w) (base := base) (k := 7) T_less_number (c_less_one := (c_less_one.up (by decide))) (c_need_statement_number := (c_need_statement_number.up (by decide)))
  have c_Loop_isub : MetF P w K mg base C_Loop "__isub__" 2 9 _ := ⟨f_Loop_isub, a_Loop_isub, if_Loop_isub, in_Loop_isub, ok_Loop_isub (P := P) (w := w) (base := base) (k := 8) F_Loop_isub (n_Loop_base := n_Loop_base) (i_Loop := i_Loop) (c_less_number := (c_less_number.up (by decide)))⟩
  have c__law_fewer := ok__law_fewer (P := P) (w := w) (base := base) (k := 9) T__law_fewer (i_Loop := i_Loop) (c_Loop_isub := (c_Loop_isub.up (by decide)))
  have F__law_grown := fun_mk (st := s__law_grown) l__law_grown co__law_grown k__law_grown
  have T__law_grown : TopD K mg "_law_grown" ["value", "statement"] s__law_grown := ⟨f__law_grown, _, F__law_grown, PySem.W.mg_of X G a__law_grown, F__law_grown.binds (ps := ["value", "statement"]) fun _ _ _ _ _ _ us hl => match us, hl with | [_, _], _ => rfl⟩
  have c__law_grown := ok__law_grown (P := P) (w := w) (base := base) (k := 14) T__law_grown (i_Loop := i_Loop) (c_Loop_iadd := (c_Loop_iadd.up (by decide)))
  have F__law_simple := fun_mk (st := s__law_simple) l__law_simple co__law_simple k__law_simple
  have T__law_simple : TopD K mg "_law_simple" ["source"] s__law_simple := ⟨f__law_simple, _, F__law_simple, PySem.W.mg_of X G a__law_simple, F__law_simple.binds (ps := ["source"]) fun _ _ _ _ _ _ us hl => match us, hl with | [_], _ => rfl⟩
  have c__law_simple := ok__law_simple (P := P) (w := w) (base := base) (k := 2) T__law_simple (c__law_of := (c__law_of.up (by decide))) (c__law_draw := (c__law_draw.up (by decide)))
  have em_InvalidStatement_InvalidStatement : PySem.W.exmOne K (.ref C_InvalidStatement) (.ref C_InvalidStatement) = some true := exm_of bE_InvalidStatement ic_InvalidStatement tE_InvalidStatement sb_InvalidStatement_InvalidStatement
  have em_InvalidNumber_InvalidStatement : PySem.W.exmOne K (.ref C_InvalidNumber) (.ref C_InvalidStatement) = some false := exm_of bE_InvalidStatement ic_InvalidStatement tE_InvalidStatement sb_InvalidNumber_InvalidStatement
  have em_InvalidNumber_InvalidNumber : PySem.W.exmOne K (.ref C_InvalidNumber) (.ref C_InvalidNumber) = some true := exm_of bE_InvalidNumber ic_InvalidNumber tE_InvalidNumber sb_InvalidNumber_InvalidNumber
  have em_InvalidLoop_InvalidStatement : PySem.W.exmOne K (.ref C_InvalidLoop) (.ref C_InvalidStatement) = some false := exm_of bE_InvalidStatement ic_InvalidStatement tE_InvalidStatement sb_InvalidLoop_InvalidStatement
  have em_InvalidLoop_InvalidNumber : PySem.W.exmOne K (.ref C_InvalidLoop) (.ref C_InvalidNumber) = some false := exm_of bE_InvalidNumber ic_InvalidNumber tE_InvalidNumber sb_InvalidLoop_InvalidNumber
  have em_InvalidLoop_InvalidLoop : PySem.W.exmOne K (.ref C_InvalidLoop) (.ref C_InvalidLoop) = some true := exm_of bE_InvalidLoop ic_InvalidLoop tE_InvalidLoop sb_InvalidLoop_InvalidLoop
  have c__law_change := ok__law_change (P := P) (w := w) (base := base) (k := 15) T__law_change (m_isinstance := m_isinstance) (m_bool := m_bool) (m_int := m_int) (x_InvalidStatement := x_InvalidStatement) (x_InvalidNumber := x_InvalidNumber) (x_InvalidLoop := x_InvalidLoop) (x_PaceError := x_PaceError) (w__law_word := w__law_word) (t_code := t__law_change) (c__law_timed := (c__law_timed.up (by decide))) (c__law_draw := (c__law_draw.up (by decide))) (c__law_of := (c__law_of.up (by decide))) (c__law_less := (c__law_less.up (by decide))) (c__law_fewer := (c__law_fewer.up (by decide))) (c__law_grown := (c__law_grown.up (by decide))) (m_len := m_len) (c__law_simple := (c__law_simple.up (by decide))) (c__law_size := (c__law_size_3.up (by decide))) (e1 := em_InvalidStatement_InvalidStatement) (e2 := em_InvalidNumber_InvalidStatement) (e3 := em_InvalidNumber_InvalidNumber) (e4 := em_InvalidLoop_InvalidStatement) (e5 := em_InvalidLoop_InvalidNumber) (e6 := em_InvalidLoop_InvalidLoop)
  have F__law_loop := fun_mk (st := s__law_loop) l__law_loop co__law_loop k__law_loop
  have T__law_loop : TopD K mg "_law_loop" ["source"] s__law_loop := ⟨f__law_loop, _, F__law_loop, PySem.W.mg_of X G a__law_loop, F__law_loop.binds (ps := ["source"]) fun _ _ _ _ _ _ us hl => match us, hl with | [_], _ => rfl⟩
  have F__law_bent := fun_mk (st := s__law_bent) l__law_bent co__law_bent k__law_bent
  have T__law_bent : TopD K mg "_law_bent" ["source", "body"] s__law_bent := ⟨f__law_bent, _, F__law_bent, PySem.W.mg_of X G a__law_bent, F__law_bent.binds (ps := ["source", "body"]) fun _ _ _ _ _ _ us hl => match us, hl with | [_, _], _ => rfl⟩
  have c__law_bent := ok__law_bent (P := P) (w := w) (base := base) (k := 3) T__law_bent (c__law_simple := (c__law_simple.up (by decide))) (c__law_draw := (c__law_draw.up (by decide))) (m_len := m_len)
  have F__law_known := fun_mk (st := s__law_known) l__law_known co__law_known k__law_known
  have T__law_known : TopD K mg "_law_known" ["source"] s__law_known := ⟨f__law_known, _, F__law_known, PySem.W.mg_of X G a__law_known, F__law_known.binds (ps := ["source"]) fun _ _ _ _ _ _ us hl => match us, hl with | [_], _ => rfl⟩
  have c__law_known := ok__law_known (P := P) (w := w) (base := base) (k := 2) T__law_known (c__law_of := (c__law_of.up (by decide))) (c__law_draw := (c__law_draw.up (by decide)))
  have F__law_body := fun_mk (st := s__law_body) l__law_body co__law_body k__law_body
  have T__law_body : TopD K mg "_law_body" ["source", "deep", "most"] s__law_body := ⟨f__law_body, _, F__law_body, PySem.W.mg_of X G a__law_body, F__law_body.binds (ps := ["source", "deep", "most"]) fun _ _ _ _ _ _ us hl => match us, hl with | [_, _, _], _ => rfl⟩
  have c__law_body_1 := ok__law_body (P := P) (w := w) (base := base) (k := 3) (d := 1) T__law_body (m_range := m_range) (c__law_draw := (c__law_draw.up (by decide))) (c__law_body := (low_none T__law_body rfl fun _ _ _ _ h => absurd h.1 (by decide))) (c__law_of := (c__law_of.up (by decide))) (c__law_simple := (c__law_simple.up (by decide))) (hd := (by decide))
  have c__law_body_2 := ok__law_body (P := P) (w := w) (base := base) (k := 4) (d := 2) T__law_body (m_range := m_range) (c__law_draw := (c__law_draw.up (by decide))) (c__law_body := (c__law_body_1.up (by decide) |>.wk fun _ _ _ _ h => h.2)) (c__law_of := (c__law_of.up (by decide))) (c__law_simple := (c__law_simple.up (by decide))) (hd := (by decide))
  have c__law_body_3 := ok__law_body (P := P) (w := w) (base := base) (k := 5) (d := 3) T__law_body (m_range := m_range) (c__law_draw := (c__law_draw.up (by decide))) (c__law_body := (c__law_body_2.up (by decide) |>.wk fun _ _ _ _ h => h.2)) (c__law_of := (c__law_of.up (by decide))) (c__law_simple := (c__law_simple.up (by decide))) (hd := (by decide))
  have c__law_loop := ok__law_loop (P := P) (w := w) (base := base) (k := 6) T__law_loop (c__law_draw := (c__law_draw.up (by decide))) (c__law_size := (c__law_size_3.up (by decide))) (c__law_bent := (c__law_bent.up (by decide))) (c__law_known := (c__law_known.up (by decide))) (c__law_body := (c__law_body_3.up (by decide)))
  have F__law_source := fun_mk (st := s__law_source) l__law_source co__law_source k__law_source
  have T__law_source : TopD K mg "_law_source" ["script", "k"] s__law_source := ⟨f__law_source, _, F__law_source, PySem.W.mg_of X G a__law_source, F__law_source.binds (ps := ["script", "k"]) fun _ _ _ _ _ _ us hl => match us, hl with | [_, _], _ => rfl⟩
  have m_abs : mg "abs" = none := PySem.W.mg_none_of X G z_abs
  have c__law_source := ok__law_source (P := P) (w := w) (base := base) (k := 0) T__law_source (m_int := m_int) (m_len := m_len) (m_abs := m_abs)
  exact fn_spZ (ok_law (P := P) (w := w) (base := base) (k := 18) F_law (m_range := m_range) (m_min := m_min) (m_len := m_len) (c__law_size := (c__law_size_3.up (by decide))) (x_InvalidStatement := x_InvalidStatement) (x_InvalidNumber := x_InvalidNumber) (x_InvalidLoop := x_InvalidLoop) (x_PaceError := x_PaceError) (w__law_word := w__law_word) (t_code := t_law) (c_Loop_getitem := (c_Loop_getitem.up (by decide))) (c_Loop_eq := (c_Loop_eq.up (by decide))) (c__law_value := (c__law_value.up (by decide))) (p_Loop_source := (p_Loop_source.up (by decide))) (i_Loop := i_Loop) (c__law_draw := (c__law_draw.up (by decide))) (c__law_change := (c__law_change.up (by decide))) (c__law_loop := (c__law_loop.up (by decide))) (c__law_source := (c__law_source.up (by decide))) (e2 := em_InvalidNumber_InvalidStatement) (e3 := em_InvalidNumber_InvalidNumber))
end Kp
open PySem PySem.W PyProof.Rows
set_option maxRecDepth 100000 in
set_option maxHeartbeats 0 in
theorem PySem.Challenge.cw_keptpace_k20_loops_changed_in_place_holds : PySem.Challenge.rw_keptpace_k20_loops_changed_in_place.Holds := by
  w_on; o_law; k_head; (case hw => w_witness2)
  k_fill
  refine LamX.walk_ofTs (l := PySem.Challenge.rw_keptpace_k20_loops_changed_in_place) (n := 63) (k := 22) (x := "script") (CX := fun w => L2.CX (PySem.Challenge.rw_keptpace_k20_loops_changed_in_place).prog w) rfl (by decide) rfl ⟨rfl, by decide, by decide⟩ (fun w h Y => PySem.W.km_in_of Y) ?F fun _ _ _ _ _ z => Pl.cx_end z
  case F =>
    intro w mg fa h Y KX G hmg
    have hT := PySem.W.km_tabs_of Y
    unfold LamX.LawAtS
    refine' Kp.top_mk KX G hmg ?a_law ?l_law ?co_law ?k_law ?lc_law ?vp_law ?hd_law ?nt_law ?z_range ?z_min ?z_len ?a__law_size ?l__law_size ?co__law_size ?k__law_size ?aE_InvalidStatement ?xE_InvalidStatement ?kE_InvalidStatement ?bE_InvalidStatement ?tE_InvalidStatement ?aE_InvalidNumber ?xE_InvalidNumber ?kE_InvalidNumber ?bE_InvalidNumber ?tE_InvalidNumber ?aE_InvalidLoop ?xE_InvalidLoop ?kE_InvalidLoop ?bE_InvalidLoop ?tE_InvalidLoop ?aE_PaceError ?xE_PaceError ?kE_PaceError ?bE_PaceError ?tE_PaceError ?a__law_word ?l__law_word ?co__law_word ?k__law_word ?ac_Loop ?a_Loop_getitem ?if_Loop_getitem ?in_Loop_getitem ?l_Loop_getitem ?co_Loop_getitem ?k_Loop_getitem ?na_Loop_base ?i1_Loop ?i2_Loop ?i3_Loop ?i4_Loop ?i5_Loop ?a_words_of ?l_words_of ?co_words_of ?k_words_of ?a_listed ?l_listed ?co_listed ?k_listed ?a_bodies_of ?l_bodies_of ?co_bodies_of ?k_bodies_of ?z_list ?a_need_statement_number ?l_need_statement_number ?co_need_statement_number ?k_need_statement_number ?a_is_number ?l_is_number ?co_is_number ?k_is_number ?z_isinstance ?z_bool ?z_int ?a_Loop_eq ?if_Loop_eq ?in_Loop_eq ?l_Loop_eq ?co_Loop_eq ?k_Loop_eq ?ha_Loop ?hn_0 ?ht_0 ?hm_Loop ?ic_Loop ?tE_Loop ?sb_Loop_Loop ?a__law_value ?l__law_value ?co__law_value ?k__law_value ?a_Loop_iadd ?if_Loop_iadd ?in_Loop_iadd ?l_Loop_iadd ?co_Loop_iadd ?k_Loop_iadd ?a_with_statement ?l_with_statement ?co_with_statement ?k_with_statement ?a_is_loop ?l_is_loop ?co_is_loop ?k_is_loop ?v_MOST_STATEMENTS ?v_MOST_DEEP ?a_is_body ?l_is_body ?co_is_body ?k_is_body ?z_all ?a_is_statement ?l_is_statement ?co_is_statement ?k_is_statement ?a_is_counted ?l_is_counted ?co_is_counted ?k_is_counted ?v_MOST_TIME ?v_LEAST_NUMBERS ?lk_LEAST_NUMBERS ?kk_LEAST_NUMBERS ?e0_LEAST_NUMBERS ?e1_LEAST_NUMBERS ?e2_LEAST_NUMBERS ?e3_LEAST_NUMBERS ?e4_LEAST_NUMBERS ?e5_LEAST_NUMBERS ?a_is_test ?l_is_test ?co_is_test ?k_is_test ?a_is_worded ?l_is_worded ?co_is_worded ?k_is_worded ?z_str ?z_tuple ?a_Loop_init ?if_Loop_init ?l_Loop_init ?co_Loop_init ?k_Loop_init ?mk1_Loop ?mk2_Loop ?pa_Loop_source ?pg_Loop_source ?pt_Loop_source ?pc_Loop_source ?l_Loop_source ?co_Loop_source ?k_Loop_source ?a__law_draw ?l__law_draw ?co__law_draw ?k__law_draw ?a__law_change ?l__law_change ?co__law_change ?k__law_change ?lc__law_change ?vp__law_change ?hd__law_change ?nt__law_change ?a__law_timed ?l__law_timed ?co__law_timed ?k__law_timed ?a_Loop_imul ?if_Loop_imul ?in_Loop_imul ?l_Loop_imul ?co_Loop_imul ?k_Loop_imul ?a_with_most ?l_with_most ?co_with_most ?k_with_most ?a__law_of ?l__law_of ?co__law_of ?k__law_of ?a__law_less ?l__law_less ?co__law_less ?k__law_less ?a__law_cut ?l__law_cut ?co__law_cut ?k__law_cut ?a__law_fewer ?l__law_fewer ?co__law_fewer ?k__law_fewer ?a_Loop_isub ?if_Loop_isub ?in_Loop_isub ?l_Loop_isub ?co_Loop_isub ?k_Loop_isub ?a_less_number ?l_less_number ?co_less_number ?k_less_number ?a_less_one ?l_less_one ?co_less_one ?k_less_one ?a_body_without ?l_body_without ?co_body_without ?k_body_without ?a__law_grown ?l__law_grown ?co__law_grown ?k__law_grown ?a__law_simple ?l__law_simple ?co__law_simple ?k__law_simple ?ic_InvalidStatement ?sb_InvalidStatement_InvalidStatement ?sb_InvalidNumber_InvalidStatement ?ic_InvalidNumber ?sb_InvalidNumber_InvalidNumber ?sb_InvalidLoop_InvalidStatement ?sb_InvalidLoop_InvalidNumber ?ic_InvalidLoop ?sb_InvalidLoop_InvalidLoop ?a__law_loop ?l__law_loop ?co__law_loop ?k__law_loop ?a__law_bent ?l__law_bent ?co__law_bent ?k__law_bent ?a__law_known ?l__law_known ?co__law_known ?k__law_known ?a__law_body ?l__law_body ?co__law_body ?k__law_body ?a__law_source ?l__law_source ?co__law_source ?k__law_source ?z_abs ?ne__law_change ?em_law ?em__law_change
    (case a_law => k_is)
    (case l_law => k_is)
    (case co_law => k_is)
    (case k_law => k_is)
    (case lc_law => k_is)
    (case vp_law => rfl)
    (case hd_law => kernel_rfl)
    (case nt_law => first | rfl | kernel_rfl)
    (case z_range => k_is)
    (case z_min => k_is)
    (case z_len => k_is)
    (case a__law_size => k_is)
    (case l__law_size => k_is)
    (case co__law_size => k_is)
    (case k__law_size => k_is)
    (case aE_InvalidStatement => k_is)
    (case xE_InvalidStatement => k_exc)
    (case kE_InvalidStatement => k_is)
    (case bE_InvalidStatement => k_is)
    (case tE_InvalidStatement => k_is)
    (case aE_InvalidNumber => k_is)
    (case xE_InvalidNumber => k_exc)
    (case kE_InvalidNumber => k_is)
    (case bE_InvalidNumber => k_is)
    (case tE_InvalidNumber => k_is)
    (case aE_InvalidLoop => k_is)
    (case xE_InvalidLoop => k_exc)
    (case kE_InvalidLoop => k_is)
    (case bE_InvalidLoop => k_is)
    (case tE_InvalidLoop => k_is)
    (case aE_PaceError => k_is)
    (case xE_PaceError => k_exc)
    (case kE_PaceError => k_is)
    (case bE_PaceError => k_is)
    (case tE_PaceError => k_is)
    (case a__law_word => k_is)
    (case l__law_word => k_is)
    (case co__law_word => k_is)
    (case k__law_word => k_is)
    (case ac_Loop => k_is)
    (case a_Loop_getitem => k_is)
    (case if_Loop_getitem => k_is)
    (case in_Loop_getitem => k_is)
    (case l_Loop_getitem => k_is)
    (case co_Loop_getitem => k_is)
    (case k_Loop_getitem => k_is)
    (case na_Loop_base => k_is)
    (case i1_Loop => k_is)
    (case i2_Loop => k_is)
    (case i3_Loop => k_is)
    (case i4_Loop => k_is)
    (case i5_Loop => k_is)
    (case a_words_of => k_is)
    (case l_words_of => k_is)
    (case co_words_of => k_is)
    (case k_words_of => k_is)
    (case a_listed => k_is)
    (case l_listed => k_is)
    (case co_listed => k_is)
    (case k_listed => k_is)
    (case a_bodies_of => k_is)
    (case l_bodies_of => k_is)
    (case co_bodies_of => k_is)
    (case k_bodies_of => k_is)
    (case z_list => k_is)
    (case a_need_statement_number => k_is)
    (case l_need_statement_number => k_is)
    (case co_need_statement_number => k_is)
    (case k_need_statement_number => k_is)
    (case a_is_number => k_is)
    (case l_is_number => k_is)
    (case co_is_number => k_is)
    (case k_is_number => k_is)
    (case z_isinstance => k_is)
    (case z_bool => k_is)
    (case z_int => k_is)
    (case a_Loop_eq => k_is)
    (case if_Loop_eq => k_is)
    (case in_Loop_eq => k_is)
    (case l_Loop_eq => k_is)
    (case co_Loop_eq => k_is)
    (case k_Loop_eq => k_is)
    (case ha_Loop => k_is)
    (case hn_0 => k_is)
    (case ht_0 => k_is)
    (case hm_Loop => k_is)
    (case ic_Loop => k_is)
    (case tE_Loop => k_is)
    (case sb_Loop_Loop => first | rfl | k_is)
    (case a__law_value => k_is)
    (case l__law_value => k_is)
    (case co__law_value => k_is)
    (case k__law_value => k_is)
    (case a_Loop_iadd => k_is)
    (case if_Loop_iadd => k_is)
    (case in_Loop_iadd => k_is)
    (case l_Loop_iadd => k_is)
    (case co_Loop_iadd => k_is)
    (case k_Loop_iadd => k_is)
    (case a_with_statement => k_is)
    (case l_with_statement => k_is)
    (case co_with_statement => k_is)
    (case k_with_statement => k_is)
    (case a_is_loop => k_is)
    (case l_is_loop => k_is)
    (case co_is_loop => k_is)
    (case k_is_loop => k_is)
    (case v_MOST_STATEMENTS => k_is)
    (case v_MOST_DEEP => k_is)
    (case a_is_body => k_is)
    (case l_is_body => k_is)
    (case co_is_body => k_is)
    (case k_is_body => k_is)
    (case z_all => k_is)
    (case a_is_statement => k_is)
    (case l_is_statement => k_is)
    (case co_is_statement => k_is)
    (case k_is_statement => k_is)
    (case a_is_counted => k_is)
    (case l_is_counted => k_is)
    (case co_is_counted => k_is)
    (case k_is_counted => k_is)
    (case v_MOST_TIME => k_is)
    (case v_LEAST_NUMBERS => k_is)
    (case lk_LEAST_NUMBERS => k_is)
    (case kk_LEAST_NUMBERS => k_keys)
    (case e0_LEAST_NUMBERS => k_is)
    (case e1_LEAST_NUMBERS => k_is)
    (case e2_LEAST_NUMBERS => k_is)
    (case e3_LEAST_NUMBERS => k_is)
    (case e4_LEAST_NUMBERS => k_is)
    (case e5_LEAST_NUMBERS => k_is)
    (case a_is_test => k_is)
    (case l_is_test => k_is)
    (case co_is_test => k_is)
    (case k_is_test => k_is)
    (case a_is_worded => k_is)
    (case l_is_worded => k_is)
    (case co_is_worded => k_is)
    (case k_is_worded => k_is)
    (case z_str => k_is)
    (case z_tuple => k_is)
    (case a_Loop_init => k_is)
    (case if_Loop_init => k_is)
    (case l_Loop_init => k_is)
    (case co_Loop_init => k_is)
    (case k_Loop_init => k_is)
    (case mk1_Loop => k_is)
    (case mk2_Loop => k_is)
    (case pa_Loop_source => k_is)
    (case pg_Loop_source => k_is)
    (case pt_Loop_source => k_is)
    (case pc_Loop_source => k_is)
    (case l_Loop_source => k_is)
    (case co_Loop_source => k_is)
    (case k_Loop_source => k_is)
    (case a__law_draw => k_is)
    (case l__law_draw => k_is)
    (case co__law_draw => k_is)
    (case k__law_draw => k_is)
    (case a__law_change => k_is)
    (case l__law_change => k_is)
    (case co__law_change => k_is)
    (case k__law_change => k_is)
    (case lc__law_change => k_is)
    (case vp__law_change => rfl)
    (case hd__law_change => kernel_rfl)
    (case nt__law_change => first | rfl | kernel_rfl)
    (case a__law_timed => k_is)
    (case l__law_timed => k_is)
    (case co__law_timed => k_is)
    (case k__law_timed => k_is)
    (case a_Loop_imul => k_is)
    (case if_Loop_imul => k_is)
    (case in_Loop_imul => k_is)
    (case l_Loop_imul => k_is)
    (case co_Loop_imul => k_is)
    (case k_Loop_imul => k_is)
    (case a_with_most => k_is)
    (case l_with_most => k_is)
    (case co_with_most => k_is)
    (case k_with_most => k_is)
    (case a__law_of => k_is)
    (case l__law_of => k_is)
    (case co__law_of => k_is)
    (case k__law_of => k_is)
    (case a__law_less => k_is)
    (case l__law_less => k_is)
    (case co__law_less => k_is)
    (case k__law_less => k_is)
    (case a__law_cut => k_is)
    (case l__law_cut => k_is)
    (case co__law_cut => k_is)
    (case k__law_cut => k_is)
    (case a__law_fewer => k_is)
    (case l__law_fewer => k_is)
    (case co__law_fewer => k_is)
    (case k__law_fewer => k_is)
    (case a_Loop_isub => k_is)
    (case if_Loop_isub => k_is)
    (case in_Loop_isub => k_is)
    (case l_Loop_isub => k_is)
    (case co_Loop_isub => k_is)
    (case k_Loop_isub => k_is)
    (case a_less_number => k_is)
    (case l_less_number => k_is)
    (case co_less_number => k_is)
    (case k_less_number => k_is)
    (case a_less_one => k_is)
    (case l_less_one => k_is)
    (case co_less_one => k_is)
    (case k_less_one => k_is)
    (case a_body_without => k_is)
    (case l_body_without => k_is)
    (case co_body_without => k_is)
    (case k_body_without => k_is)
    (case a__law_grown => k_is)
    (case l__law_grown => k_is)
    (case co__law_grown => k_is)
    (case k__law_grown => k_is)
    (case a__law_simple => k_is)
    (case l__law_simple => k_is)
    (case co__law_simple => k_is)
    (case k__law_simple => k_is)
    (case ic_InvalidStatement => k_is)
    (case sb_InvalidStatement_InvalidStatement => first | rfl | k_is)
    (case sb_InvalidNumber_InvalidStatement => first | rfl | k_is)
    (case ic_InvalidNumber => k_is)
    (case sb_InvalidNumber_InvalidNumber => first | rfl | k_is)
    (case sb_InvalidLoop_InvalidStatement => first | rfl | k_is)
    (case sb_InvalidLoop_InvalidNumber => first | rfl | k_is)
    (case ic_InvalidLoop => k_is)
    (case sb_InvalidLoop_InvalidLoop => first | rfl | k_is)
    (case a__law_loop => k_is)
    (case l__law_loop => k_is)
    (case co__law_loop => k_is)
    (case k__law_loop => k_is)
    (case a__law_bent => k_is)
    (case l__law_bent => k_is)
    (case co__law_bent => k_is)
    (case k__law_bent => k_is)
    (case a__law_known => k_is)
    (case l__law_known => k_is)
    (case co__law_known => k_is)
    (case k__law_known => k_is)
    (case a__law_body => k_is)
    (case l__law_body => k_is)
    (case co__law_body => k_is)
    (case k__law_body => k_is)
    (case a__law_source => k_is)
    (case l__law_source => k_is)
    (case co__law_source => k_is)
    (case k__law_source => k_is)
    (case z_abs => k_is)
    (case ne__law_change => first | rfl | kernel_rfl)
    (case em_law => exact hT _ (by k_mem))
    (case em__law_change => exact hT _ (by k_mem))
#print axioms PySem.Challenge.cw_keptpace_k20_loops_changed_in_place_holds
