import PyProof.Rows.All
import Wide.All
import OpenK.AllK
import Wide.FinOn
import HandS.ForMost
import HandS.ForExc
import HandS.Deep
import HandS.TupAny
import HandS.IsInst
import HandS.SortInts
import HandS.Wide
import HandS.More
import HandS.ExcIs
import PySem.Challenge.RW_keptpace_k12_statements_left_out
set_option Elab.async false
set_option linter.all false
set_option maxRecDepth 100000
set_option maxHeartbeats 4000000
/-! Pl: a pure layer over the hand layer. Data D, representation by objects that never change, own objects, judgements. -/
namespace Pl
open PySem PySem.Spec L2
/-- data: what a value stands for, deep -/
inductive D where
  | non | bl (b : Bool) | int (i : Int) | str (x : Str) | tup (xs : List D) | lst (xs : List D) | dct (ks vs : List D) | adr (a : Addr) | ty (n : String)
/-- an object that never changes -/
def Perm : HO → Prop
  | .tup _ => True
  | .frz _ _ => True
  | _ => False
/-- a list that nobody changes any more -/
def FzL (K : PySem.W.Frag) (H : Hp) (a : Addr) (xs : List V) : Prop :=
  (∃ o, H a = some (.frz o (.lst xs))) ∨
    ∃ (o : Obj) (its : Array Value) (n : Nat), K.lookup a = some o ∧ o.cls = .type "list" ∧ o.dict = none ∧ o.data = .seq its n ∧ its.size ≤ sizeLine ∧ Vals xs its.toList
theorem FzL.sq {K : PySem.W.Frag} {H : Hp} {a : Addr} {xs : List V} (h : FzL K H a xs) : SqL K H a xs := by
  rcases h with ⟨o, h⟩ | h
  · exact .inl (.inr ⟨o, h⟩)
  · exact .inr h
/-- what a dict object says: its keys and values in order (flat keys) -/
def keyD : Key → D
  | .inl i => .int i
  | .inr x => .str x
mutual
inductive Rep (K : PySem.W.Frag) (H : Hp) : V → D → Prop
  | non : Rep K H .non .non
  | bl (b : Bool) : Rep K H (.bl b) (.bl b)
  | int (i : Int) : Rep K H (.int i) (.int i)
  | str (x : Str) : Rep K H (.str x) (.str x)
  | tup {a : Addr} {xs : List V} {ds : List D} : SqT K H a xs → RepAll K H xs ds → Rep K H (.ref a) (.tup ds)
  | lst {a : Addr} {xs : List V} {ds : List D} : FzL K H a xs → RepAll K H xs ds → Rep K H (.ref a) (.lst ds)
  | dct {a : Addr} {o : Obj} {kvs : List (Key × V)} {ds : List D} : H a = some (.frz o (.dK kvs)) → RepAll K H (kvs.map (·.2)) ds → Rep K H (.ref a) (.dct (kvs.map fun p => keyD p.1) ds)
  | adr (a : Addr) : Rep K H (.ref a) (.adr a)
  | ty (n : String) : Rep K H (.ty n) (.ty n)
inductive RepAll (K : PySem.W.Frag) (H : Hp) : List V → List D → Prop
  | nil : RepAll K H [] []
  | cons {v : V} {vs : List V} {d : D} {ds : List D} : Rep K H v d → RepAll K H vs ds → RepAll K H (v :: vs) (d :: ds)
end
/-- from H to H' only the objects at A may have changed, and what is permanent stands -/
def Step (A : Addr → Prop) (H H' : Hp) : Prop := ∀ b o, H b = some o → (Perm o ∨ ¬ A b) → H' b = some o
theorem Step.refl {A : Addr → Prop} {H : Hp} : Step A H H := fun _ _ h _ => h
theorem Step.mono {A B : Addr → Prop} {H H' : Hp} (s : Step A H H') (h : ∀ a, A a → B a) : Step B H H' := fun b o e q => s b o e (q.imp id fun n z => n (h b z))
theorem Step.of_same {A : Addr → Prop} {H H' : Hp} (s : Same H H') : Step A H H' := fun b o e _ => s b o e
theorem Step.new {A : Addr → Prop} {H : Hp} {p : Addr} {o : HO} (h : H p = none) : Step A H (upd H p o) := fun b u e _ => by
  rw [upd_ne (ne_of_none e h)]; exact e
section
variable {K : PySem.W.Frag} {A : Addr → Prop} {H H' : Hp}
theorem Step.tup {a : Addr} {xs : List V} (s : Step A H H') (h : SqT K H a xs) : SqT K H' a xs := by
  rcases h with (h | ⟨o, h⟩) | h
  · exact .inl (.inl (s _ _ h (.inl trivial)))
  · exact .inl (.inr ⟨o, s _ _ h (.inl trivial)⟩)
  · exact .inr h
theorem Step.fzl {a : Addr} {xs : List V} (s : Step A H H') (h : FzL K H a xs) : FzL K H' a xs := by
  rcases h with ⟨o, h⟩ | h
  · exact .inl ⟨o, s _ _ h (.inl trivial)⟩
  · exact .inr h
mutual
theorem Rep.step (s : Step A H H') : ∀ {v : V} {d : D}, Rep K H v d → Rep K H' v d
  | _, _, .non => .non
  | _, _, .bl b => .bl b
  | _, _, .int i => .int i
  | _, _, .str x => .str x
  | _, _, .tup h r => .tup (s.tup h) (RepAll.step s r)
  | _, _, .lst h r => .lst (s.fzl h) (RepAll.step s r)
  | _, _, .dct h r => .dct (s _ _ h (.inl trivial)) (RepAll.step s r)
  | _, _, .adr a => .adr a
  | _, _, .ty n => .ty n
theorem RepAll.step (s : Step A H H') : ∀ {vs : List V} {ds : List D}, RepAll K H vs ds → RepAll K H' vs ds
  | _, _, .nil => .nil
  | _, _, .cons h r => .cons (Rep.step s h) (RepAll.step s r)
end
theorem RepAll.length : ∀ {vs : List V} {ds : List D}, RepAll K H vs ds → vs.length = ds.length
  | _, _, .nil => rfl
  | _, _, .cons _ r => congrArg (· + 1) (RepAll.length r)
theorem RepAll.get : ∀ {vs : List V} {ds : List D} {i : Nat} {d : D}, RepAll K H vs ds → ds[i]? = some d → ∃ v, vs[i]? = some v ∧ Rep K H v d
  | _, _, _, _, .nil, e => by simp at e
  | _, _, 0, _, .cons h _, e => by simp at e; subst e; exact ⟨_, rfl, h⟩
  | _, _, i + 1, d, .cons _ r, e => by
    obtain ⟨v, h1, h2⟩ := RepAll.get (i := i) (d := d) r (by simpa using e)
    exact ⟨v, by simpa using h1, h2⟩
theorem RepAll.getV : ∀ {vs : List V} {ds : List D} {i : Nat} {v : V}, RepAll K H vs ds → vs[i]? = some v → ∃ d, ds[i]? = some d ∧ Rep K H v d
  | _, _, _, _, .nil, e => by simp at e
  | _, _, 0, _, .cons h _, e => by simp at e; subst e; exact ⟨_, rfl, h⟩
  | _, _, i + 1, v, .cons _ r, e => by
    obtain ⟨d, h1, h2⟩ := RepAll.getV (i := i) (v := v) r (by simpa using e)
    exact ⟨d, by simpa using h1, h2⟩
theorem RepAll.append : ∀ {vs ws : List V} {ds es : List D}, RepAll K H vs ds → RepAll K H ws es → RepAll K H (vs ++ ws) (ds ++ es)
  | _, _, _, _, .nil, s => s
  | _, _, _, _, .cons h r, s => .cons h (RepAll.append r s)
theorem RepAll.take : ∀ {vs : List V} {ds : List D} (n : Nat), RepAll K H vs ds → RepAll K H (vs.take n) (ds.take n)
  | _, _, 0, _ => .nil
  | _, _, _ + 1, .nil => .nil
  | _, _, n + 1, .cons h r => .cons h (RepAll.take n r)
theorem RepAll.drop : ∀ {vs : List V} {ds : List D} (n : Nat), RepAll K H vs ds → RepAll K H (vs.drop n) (ds.drop n)
  | _, _, 0, r => r
  | _, _, _ + 1, .nil => .nil
  | _, _, n + 1, .cons _ r => RepAll.drop n r
theorem RepAll.set {v : V} {d : D} (h : Rep K H v d) : ∀ {vs : List V} {ds : List D} (i : Nat), RepAll K H vs ds → RepAll K H (vs.set i v) (ds.set i d)
  | _, _, _, .nil => .nil
  | _, _, 0, .cons _ r => .cons h r
  | _, _, i + 1, .cons q r => .cons q (RepAll.set h i r)
end
/-! ### own objects -/
/-- the content of an object that may be changed -/
inductive Own where
  | lst (xs : List D) | dct (ks vs : List D)
/-- a slot of the frame: nothing that is known, a value, an object that only this name holds -/
inductive Slot where
  | emp | val (d : D) | own (o : Own)
def OwnAt (K : PySem.W.Frag) (H : Hp) (a : Addr) : Own → Prop
  | .lst ds => ∃ xs, H a = some (.lst xs) ∧ RepAll K H xs ds
  | .dct ks ds => ∃ kvs : List (Key × V), H a = some (.dK kvs) ∧ ks = kvs.map (fun p => keyD p.1) ∧ RepAll K H (kvs.map (·.2)) ds
/-- the state: the slots, and the shared own objects -/
structure Sta where
  ρ : List Slot
  W : Addr → Option Own
def SlotOk (K : PySem.W.Frag) (H : Hp) (x : Option (Option V)) : Slot → Prop
  | .emp => True
  | .val d => ∃ v, x = some (some v) ∧ Rep K H v d
  | .own o => ∃ a, x = some (some (.ref a)) ∧ OwnAt K H a o
/-- the slot i holds the own object at a -/
def OwnS (σ : St) (ρ : List Slot) (i : Nat) (a : Addr) : Prop := (∃ o, ρ[i]? = some (.own o)) ∧ σ[i]? = some (some (.ref a))
def RelW (K : PySem.W.Frag) (H : Hp) (W : Addr → Option Own) : Prop := ∀ a o, W a = some o → OwnAt K H a o
structure Rel (K : PySem.W.Frag) (H : Hp) (σ : St) (S : Sta) : Prop where
  len : σ.length = S.ρ.length
  slot : ∀ (i : Nat) s, S.ρ[i]? = some s → SlotOk K H σ[i]? s
  inj : ∀ (i j : Nat) a, OwnS σ S.ρ i a → OwnS σ S.ρ j a → i = j
  wor : RelW K H S.W
  dis : ∀ (i : Nat) a, OwnS σ S.ρ i a → S.W a = none
/-- what may change -/
def Oa (σ : St) (S : Sta) (a : Addr) : Prop := (∃ i, OwnS σ S.ρ i a) ∨ S.W a ≠ none
/-- how a part of the code goes from one state to the next -/
structure Nx (σ : St) (S : Sta) (H : Hp) (σ' : St) (S' : Sta) (H' : Hp) : Prop where
  st : Step (Oa σ S) H H'
  kn : ∀ b, H' b = none → H b = none
  oa : ∀ a, Oa σ' S' a → Oa σ S a ∨ H a = none
theorem Nx.refl {σ : St} {S : Sta} {H : Hp} : Nx σ S H σ S H := ⟨Step.refl, fun _ h => h, fun _ h => .inl h⟩
theorem OwnAt.at {K : PySem.W.Frag} {H : Hp} {a : Addr} {o : Own} (h : OwnAt K H a o) : ∃ u, H a = some u ∧ ¬ Perm u ∧ Mut (some u) := by
  cases o with
  | lst ds => obtain ⟨xs, h, _⟩ := h; exact ⟨_, h, fun z => z, trivial⟩
  | dct ks ds => obtain ⟨xs, h, _⟩ := h; exact ⟨_, h, fun z => z, trivial⟩
theorem OwnAt.step {K : PySem.W.Frag} {A : Addr → Prop} {H H' : Hp} {a : Addr} {o : Own} (s : Step A H H') (n : ¬ A a) (h : OwnAt K H a o) : OwnAt K H' a o := by
  cases o with
  | lst ds => obtain ⟨xs, h, r⟩ := h; exact ⟨xs, s _ _ h (.inr n), r.step s⟩
  | dct ks ds => obtain ⟨xs, h, e, r⟩ := h; exact ⟨xs, s _ _ h (.inr n), e, r.step s⟩
section
variable {K : PySem.W.Frag} {A : Addr → Prop} {H H' H2 : Hp} {σ σ' σ2 : St} {S S' S2 : Sta}
theorem Rel.known (r : Rel K H σ S) {a : Addr} (h : Oa σ S a) : ∃ u, H a = some u ∧ ¬ Perm u ∧ Mut (some u) := by
  rcases h with ⟨i, ⟨o, e⟩, q⟩ | h
  · obtain ⟨b, e2, z⟩ := r.slot i _ e
    rw [q] at e2; cases e2
    exact z.at
  · cases e : S.W a with
    | none => exact absurd e h
    | some o => exact (r.wor a o e).at
/-- nothing of ours was touched -/
theorem Rel.step (r : Rel K H σ S) (s : Step A H H') (n : ∀ a, Oa σ S a → ¬ A a) : Rel K H' σ S where
  len := r.len
  slot := fun i s' e => by
    have q := r.slot i s' e
    cases s' with
    | emp => trivial
    | val d => obtain ⟨v, h1, h2⟩ := q; exact ⟨v, h1, h2.step s⟩
    | own o => obtain ⟨a, h1, h2⟩ := q; exact ⟨a, h1, h2.step s (n a (.inl ⟨i, ⟨o, e⟩, h1⟩))⟩
  inj := r.inj
  wor := fun a o e => (r.wor a o e).step s (n a (.inr (by rw [e]; exact fun z => nomatch z)))
  dis := r.dis
theorem Rel.same (r : Rel K H σ S) (s : Same H H') : Rel K H' σ S := r.step (A := fun _ => False) (Step.of_same s) fun _ _ z => z
theorem same_kn (s : Same H H') : ∀ b, H' b = none → H b = none := fun b h => by
  cases q : H b with
  | none => rfl
  | some o => rw [s b o q] at h; cases h
theorem Nx.same (s : Same H H') : Nx σ S H σ S H' := ⟨Step.of_same s, same_kn s, fun _ h => .inl h⟩
theorem Nx.trans (a : Nx σ S H σ' S' H') (b : Nx σ' S' H' σ2 S2 H2) : Nx σ S H σ2 S2 H2 where
  st := fun x o e q => by
    have e1 := a.st x o e q
    refine b.st x o e1 (q.imp id fun n z => ?_)
    rcases a.oa x z with z | z
    · exact n z
    · rw [e] at z; cases z
  kn := fun x h => a.kn x (b.kn x h)
  oa := fun x h => by
    rcases b.oa x h with h | h
    · exact a.oa x h
    · exact .inr (a.kn x h)
theorem same_new {p : Addr} {o : HO} (h : H p = none) : Same H (upd H p o) := fun b u e => by rw [upd_ne (ne_of_none e h)]; exact e
end
/-! ### freezing: a list, a dict that nobody will change -/
theorem Inv.freeze {X : Cx} {pins : List (Addr × Obj)} {σ : St} {H : Hp} {s : Shared} {a : Addr} {u : HO} (I : Inv X pins σ H s) (h : H a = some u) (m : (∃ xs, u = .lst xs) ∨ ∃ kvs, u = .dK kvs) :
    ∃ o, Inv X pins σ (upd H a (.frz o u)) s := by
  have np : ∀ xs, u ≠ .tup xs := fun xs e => by rcases m with ⟨_, rfl⟩ | ⟨_, rfl⟩ <;> cases e
  have no : ∀ x, u ≠ .own x := fun xs e => by rcases m with ⟨_, rfl⟩ | ⟨_, rfl⟩ <;> cases e
  have nf : ∀ o w, u ≠ .frz o w := fun _ _ e => by rcases m with ⟨_, rfl⟩ | ⟨_, rfl⟩ <;> cases e
  have nt : ∀ ps, u ≠ .tbl ps := fun xs e => by rcases m with ⟨_, rfl⟩ | ⟨_, rfl⟩ <;> cases e
  have ok := I.hok a u h
  obtain ⟨o, ho⟩ := objOk_get ok
  refine ⟨o, ?_⟩
  have ne : ∀ b w, H b = some w → w ≠ u → b ≠ a := fun b w e n z => by subst z; rw [h] at e; exact n (Option.some.inj e).symm
  have un : Un X.fs [] H (upd H a (.frz o u)) s.heap s.heap := by
    refine ⟨fun b o e _ _ _ => e, fun b o e _ _ _ => ⟨o.slots, e⟩, fun b o e n _ => ?_, fun b o e _ => ⟨o, e⟩, fun b xs e => ?_, fun b ob w e => ?_, fun b ps e => ⟨#[], ?_⟩⟩
    · rw [upd_ne (ne_of_none h n).symm]; exact n
    · rw [upd_ne (ne b _ e (np xs).symm)]; exact e
    · rw [upd_ne (ne b _ e (nf ob w).symm)]; exact e
    · rw [upd_ne (ne b _ e (nt ps).symm), e]; simp
  have hok : HOk X.prog X.w (upd H a (.frz o u)) s.heap := fun b w e => by
    by_cases hb : b = a
    · subst hb
      rw [upd_same] at e; cases e
      refine ⟨ho, ?_⟩
      rcases m with ⟨xs, rfl⟩ | ⟨kvs, rfl⟩
      · exact ok
      · exact ok
    · rw [upd_ne hb] at e
      exact (I.hok b w e).stay (fun _ _ _ z => z) (fun c z => by rw [upd_ne (ne c _ z (no b).symm)]; exact z) fun c xs z => by rw [upd_ne (ne c _ z (np xs).symm)]; exact z
  exact I.un (t' := s.toks) un hok
/-- behind a rule the new list is frozen -/
def frz (Q : VK) : VK := fun v H => Q v H ∨ ∃ a u, v = .ref a ∧ H a = some u ∧ ((∃ xs, u = .lst xs) ∨ ∃ kvs, u = .dK kvs) ∧ ∀ o, Q v (upd H a (.frz o u))
theorem ep_frz {X : Cx} {pins : List (Addr × Obj)} {σ : St} {Q : VK} {u : Value} {s : Shared} (h : EP X pins σ (frz Q) u s) : EP X pins σ Q u s := by
  obtain ⟨v, H', I, r, q | ⟨a, w, rfl, e, m, q⟩⟩ := h
  · exact ⟨v, H', I, r, q⟩
  · obtain ⟨o, J⟩ := Inv.freeze I e m
    exact ⟨_, _, J, r, q o⟩
def tFrz (t : TE) : TE := fun σ H Q => t σ H (frz Q)
theorem pe_frz {X : Cx} {e : Expr} {t : TE} (h : PE X e t) : PE X e (tFrz t) := ⟨fun pins s σ H Q I q => thn (h.run pins s σ H _ I q) fun _ _ z => ep_frz z⟩
theorem weakE {X : Cx} {e : Expr} {t t' : TE} (h : PE X e t) (w : ∀ σ H Q, t' σ H Q → t σ H Q) : PE X e t' := ⟨fun pins s σ H Q I q => h.run pins s σ H Q I (w _ _ _ q)⟩
theorem weakT {X : Cx} {e : Expr} {t t' : TT} (h : PT X e t) (w : ∀ σ H Q, t' σ H Q → t σ H Q) : PT X e t' := ⟨fun pins s σ H Q I q => h.run pins s σ H Q I (w _ _ _ q)⟩
theorem weakW {X : Cx} {e : Expr} {t t' : TT} (h : PW X e t) (w : ∀ σ H Q, t' σ H Q → t σ H Q) : PW X e t' := ⟨fun wh pins s σ H Q I q => h.run wh pins s σ H Q I (w _ _ _ q)⟩
theorem weakA {X : Cx} {e : List Expr} {t t' : TA} (h : PA X e t) (w : ∀ σ H Q, t' σ H Q → t σ H Q) : PA X e t' := ⟨fun p pins s σ H Q I q => h.run p pins s σ H Q I (w _ _ _ q)⟩
theorem weakS {X : Cx} {st : Stmt} {t t' : TS} (h : L2.PS X st t) (w : ∀ D σ H, t' D σ H → t D σ H) : L2.PS X st t' := ⟨fun pins s σ H D I q => h.run pins s σ H D I (w _ _ _ q)⟩
theorem weakSs {X : Cx} {st : List Stmt} {t t' : TS} (h : PSs X st t) (w : ∀ D σ H, t' D σ H → t D σ H) : PSs X st t' := ⟨fun pins s σ H D I q => h.run pins s σ H D I (w _ _ _ q)⟩
end Pl
set_option Elab.async false
set_option linter.all false
set_option maxRecDepth 100000
set_option maxHeartbeats 4000000
/-! Pl, part 2: the judgements of expressions, tests, arguments -/
namespace Pl
open PySem PySem.Spec L2
/-- an exception: its class, what its attribute 'line' holds -/
structure Exn where
  cls : Value
  line : Option D
def XR (K : PySem.W.Frag) (H : Hp) (x : Exn) (cls : Value) (d : Option Addr) : Prop :=
  x.cls = cls ∧ match x.line with
    | none => d = none
    | some y => ∃ a v, d = some a ∧ H a = some (.xd [("line", v)]) ∧ Rep K H v y
abbrev PQ := D → Sta → Prop
abbrev PX := Exn → Sta → Prop
abbrev PTE := Sta → PQ → PX → Prop
abbrev PTT := Sta → (Bool → Sta → Prop) → PX → Prop
abbrev PTA := Sta → (List D → Sta → Prop) → PX → Prop
def Up (K : PySem.W.Frag) (σ : St) (S : Sta) (H : Hp) (Q : VK) (Q' : PQ) : Prop := ∀ v d H' S', Nx σ S H σ S' H' → Rel K H' σ S' → Rep K H' v d → Q' d S' → Q v H'
def UpT (K : PySem.W.Frag) (σ : St) (S : Sta) (H : Hp) (Q : Bool → Hp → Prop) (Q' : Bool → Sta → Prop) : Prop := ∀ b H' S', Nx σ S H σ S' H' → Rel K H' σ S' → Q' b S' → Q b H'
def UpA (K : PySem.W.Frag) (σ : St) (S : Sta) (H : Hp) (Q : List V → Hp → Prop) (Q' : List D → Sta → Prop) : Prop := ∀ vs ds H' S', Nx σ S H σ S' H' → Rel K H' σ S' → RepAll K H' vs ds → Q' ds S' → Q vs H'
def UpX (K : PySem.W.Frag) (σ : St) (S : Sta) (H : Hp) (W : WX) (E : PX) : Prop := ∀ x cls dd H' S', Nx σ S H σ S' H' → Rel K H' σ S' → XR K H' x cls dd → E x S' → W cls dd σ H'
section
variable {K : PySem.W.Frag} {σ : St} {S S1 : Sta} {H H1 : Hp}
theorem UpX.thn {W : WX} {E : PX} (u : UpX K σ S H W E) (n : Nx σ S H σ S1 H1) : UpX K σ S1 H1 W E := fun x c d H' S' n' r e q => u x c d H' S' (n.trans n') r e q
end
def lE (X : Cx) (W : WX) (t : PTE) : TE := fun σ H Q => ∃ S Q' E', Rel X.K H σ S ∧ t S Q' E' ∧ Up X.K σ S H Q Q' ∧ UpX X.K σ S H W E'
def lT (X : Cx) (W : WX) (t : PTT) : TT := fun σ H Q => ∃ S Q' E', Rel X.K H σ S ∧ t S Q' E' ∧ UpT X.K σ S H Q Q' ∧ UpX X.K σ S H W E'
def lA (X : Cx) (W : WX) (t : PTA) : TA := fun σ H Q => ∃ S Q' E', Rel X.K H σ S ∧ t S Q' E' ∧ UpA X.K σ S H Q Q' ∧ UpX X.K σ S H W E'
/-- the judgements -/
def PM (X : Cx) (e : Expr) (t : PTE) : Prop := ∀ W, Takes X W → PE X e (lE X W t)
def PMT (X : Cx) (e : Expr) (t : PTT) : Prop := ∀ W, Takes X W → PT X e (lT X W t)
def PMW (X : Cx) (e : Expr) (t : PTT) : Prop := ∀ W, Takes X W → PW X e (lT X W t)
def PMA (X : Cx) (es : List Expr) (t : PTA) : Prop := ∀ W, Takes X W → PA X es (lA X W t)
section
variable {X : Cx}
/-! ### constants, names -/
def pC (d : D) : PTE := fun S Q _ => Q d S
theorem pm_c {e : Expr} {v : V} {d : D} (h : PE X e (tC v)) (r : ∀ H, Rep X.K H v d) : PM X e (pC d) := fun W _ => weakE h fun σ H Q => by
  rintro ⟨S, Q', E', rel, q, up, _⟩
  exact up _ _ _ _ .refl rel (r H) q
theorem pm_int {i j pos} : PM X (.Constant (.int i) j pos) (pC (.int i)) := pm_c pe_int fun _ => .int i
theorem pm_bl {b j pos} : PM X (.Constant (.bool b) j pos) (pC (.bl b)) := pm_c pe_bl fun _ => .bl b
theorem pm_non {j pos} : PM X (.Constant .none j pos) (pC .non) := pm_c pe_non fun _ => .non
theorem pm_str {x j pos} : PM X (.Constant (.str x) j pos) (pC (.str x)) := pm_c pe_str fun _ => .str x
/-- a module's name: what it holds does not hang on the heap -/
theorem pm_glob {x : Str} {v : V} {u : Value} {d : D} {pos : Pos} (hg : Gl X x) (hm : X.mg x = some u) (r : RelV v u) (rd : ∀ H, Rep X.K H v d) (hd : (x == ("__debug__" : Str)) = false := by decide) : PM X (.Name x pos) (pC d) := pm_c (pe_glob hg hm r hd) rd
def pVar (i : Nat) : PTE := fun S Q _ => match S.ρ[i]? with
  | some (.val d) => Q d S
  | some (.own (.lst xs)) => Q (.lst xs) ⟨S.ρ.set i (.val (.lst xs)), S.W⟩
  | some (.own (.dct ks vs)) => Q (.dct ks vs) ⟨S.ρ.set i (.val (.dct ks vs)), S.W⟩
  | _ => False
/-- an own object at a slot is frozen -/
theorem Rel.frozen {K : PySem.W.Frag} {H : Hp} {σ : St} {S : Sta} {i : Nat} {a : Addr} {o : Own} {d : D} {u : HO} {ob : Obj} (r : Rel K H σ S) (e : S.ρ[i]? = some (.own o)) (ea : σ[i]? = some (some (.ref a))) (hu : H a = some u)
    (rep : Rep K (upd H a (.frz ob u)) (.ref a) d) :
    Nx σ S H σ ⟨S.ρ.set i (.val d), S.W⟩ (upd H a (.frz ob u)) ∧ Rel K (upd H a (.frz ob u)) σ ⟨S.ρ.set i (.val d), S.W⟩ := by
  have oi : OwnS σ S.ρ i a := ⟨⟨o, e⟩, ea⟩
  have st : ∀ {A : Addr → Prop}, A a → Step A H (upd H a (.frz ob u)) := fun {A} ha b w eb q => by
    by_cases hb : b = a
    · subst hb
      rcases q with q | q
      · obtain ⟨u', e', np, _⟩ := r.known (.inl ⟨i, oi⟩)
        rw [eb] at e'; cases e'; exact absurd q np
      · exact absurd ha q
    · rw [upd_ne hb]; exact eb
  have back : ∀ j b, OwnS σ (S.ρ.set i (.val d)) j b → j ≠ i ∧ OwnS σ S.ρ j b := fun j b h => by
    obtain ⟨⟨o', h1⟩, h2⟩ := h
    by_cases hj : j = i
    · subst hj
      by_cases hl : j < S.ρ.length
      · rw [List.getElem?_set_self hl] at h1; cases h1
      · rw [List.getElem?_eq_none (by simpa using hl)] at h1; cases h1
    · rw [List.getElem?_set_ne (Ne.symm hj)] at h1
      exact ⟨hj, ⟨o', h1⟩, h2⟩
  have sa := st (A := fun x => x = a) rfl
  refine ⟨⟨st (.inl ⟨i, oi⟩), fun b h => ?_, fun x h => ?_⟩, ?_⟩
  · by_cases hb : b = a
    · subst hb; rw [upd_same] at h; cases h
    · rw [upd_ne hb] at h; exact h
  · rcases h with ⟨j, h⟩ | h
    · exact .inl (.inl ⟨j, (back j x h).2⟩)
    · exact .inl (.inr h)
  · refine ⟨by simpa using r.len, fun j s es => ?_, fun j k b h1 h2 => r.inj j k b (back _ _ h1).2 (back _ _ h2).2, fun b o' h => ?_, fun j b h => r.dis j b (back _ _ h).2⟩
    · by_cases hj : j = i
      · subst hj
        have hl : j < S.ρ.length := (List.getElem?_eq_some_iff.mp e).1
        have es' : (S.ρ.set j (.val d))[j]? = some s := es
        rw [List.getElem?_set_self hl] at es'
        cases es'
        exact ⟨_, ea, rep⟩
      · have es' : (S.ρ.set i (.val d))[j]? = some s := es
        rw [List.getElem?_set_ne (Ne.symm hj)] at es'
        have q := r.slot j s es'
        cases s with
        | emp => trivial
        | val d' => obtain ⟨v, h1, h2⟩ := q; exact ⟨v, h1, h2.step sa⟩
        | own o' =>
          obtain ⟨b, h1, h2⟩ := q
          exact ⟨b, h1, h2.step sa fun z => hj (r.inj j i b ⟨⟨o', es'⟩, h1⟩ (z ▸ oi))⟩
    · refine (r.wor b o' h).step sa fun z => ?_
      have z' : b = a := z
      subst z'
      have q : S.W b = none := r.dis i b oi
      rw [show S.W b = some o' from h] at q; cases q
theorem pm_var {i : Nat} {e : Expr} (h : PE X e (tVar i)) : PM X e (pVar i) := fun W _ => weakE (pe_frz h) fun σ H Q => by
  rintro ⟨S, Q', E', rel, q, up, _⟩
  unfold pVar at q
  split at q
  · rename_i d es
    obtain ⟨v, h1, h2⟩ := rel.slot i _ es
    exact ⟨v, h1, .inl (up _ _ _ _ .refl rel h2 q)⟩
  · rename_i xs es
    obtain ⟨a, h1, ys, h2, h3⟩ := rel.slot i _ es
    refine ⟨.ref a, h1, .inr ⟨a, _, rfl, h2, .inl ⟨_, rfl⟩, fun o => ?_⟩⟩
    have rp : Rep X.K (upd H a (.frz o (.lst ys))) (.ref a) (.lst xs) := .lst (.inl ⟨o, upd_same⟩) (h3.step (A := fun x => x = a) fun b w eb q => by
      by_cases hb : b = a
      · subst hb
        rw [h2] at eb; cases eb
        rcases q with q | q
        · exact q.elim
        · exact absurd rfl q
      · rw [upd_ne hb]; exact eb)
    obtain ⟨nx, r'⟩ := rel.frozen es h1 h2 rp
    exact up _ _ _ _ nx r' rp q
  · rename_i ks ds es
    obtain ⟨a, h1, kvs, h2, ek, h3⟩ := rel.slot i _ es
    refine ⟨.ref a, h1, .inr ⟨a, _, rfl, h2, .inr ⟨_, rfl⟩, fun o => ?_⟩⟩
    have rp : Rep X.K (upd H a (.frz o (.dK kvs))) (.ref a) (.dct ks ds) := ek ▸ .dct (o := o) upd_same (h3.step (A := fun x => x = a) fun b w eb q => by
      by_cases hb : b = a
      · subst hb
        rw [h2] at eb; cases eb
        rcases q with q | q
        · exact q.elim
        · exact absurd rfl q
      · rw [upd_ne hb]; exact eb)
    obtain ⟨nx, r'⟩ := rel.frozen es h1 h2 rp
    exact up _ _ _ _ nx r' rp q
  · exact q.elim
/-! ### operators by values -/
abbrev Op2 := D → D → (D → Prop) → Prop
abbrev OpN := List D → (D → Prop) → Prop
/-- the end of an operation: what came is represented, all that stood stands -/
def Fin (K : PySem.W.Frag) (H : Hp) (Q : VK) (Q' : D → Prop) : Prop := ∀ z c H', Same H H' → Rep K H' z c → Q' c → Q z H'
def OpD (X : Cx) (f : Value → Value → Sem Value) (o : Op2) : Prop := ∃ r, OpR X f r ∧ ∀ (H : Hp) (x y : V) (d e : D) (Q : VK) (Q' : D → Prop), Rep X.K H x d → Rep X.K H y e → o d e Q' → Fin X.K H Q Q' → r x y H Q
def UnD (X : Cx) (f : Value → Sem Value) (o : D → (D → Prop) → Prop) : Prop := ∃ r, UnR X f r ∧ ∀ (H : Hp) (x : V) (d : D) (Q : VK) (Q' : D → Prop), Rep X.K H x d → o d Q' → Fin X.K H Q Q' → r x H Q
def CallD (X : Cx) (f : Value) (o : OpN) : Prop := ∃ r, CallR X f r ∧ ∀ (H : Hp) (xs : List V) (ds : List D) (Q : VK) (Q' : D → Prop), RepAll X.K H xs ds → o ds Q' → Fin X.K H Q Q' → r xs H Q
def MtD (X : Cx) (id : String) (o : D → OpN) : Prop := ∃ r, MtR X id r ∧ ∀ (H : Hp) (x : V) (d : D) (xs : List V) (ds : List D) (Q : VK) (Q' : D → Prop), Rep X.K H x d → RepAll X.K H xs ds → o d ds Q' → Fin X.K H Q Q' → r x xs H Q
def IxD (X : Cx) (o : Op2) : Prop := ∃ r, IxR X r ∧ ∀ (H : Hp) (x y : V) (d e : D) (Q : VK) (Q' : D → Prop), Rep X.K H x d → Rep X.K H y e → o d e Q' → Fin X.K H Q Q' → r x y H Q
def pOp (o : Op2) (ta tb : PTE) : PTE := fun S Q E => ta S (fun x S1 => tb S1 (fun y S2 => o x y fun z => Q z S2) E) E
def pUn (o : D → (D → Prop) → Prop) (ta : PTE) : PTE := fun S Q E => ta S (fun x S1 => o x fun z => Q z S1) E
theorem Up.fin {K : PySem.W.Frag} {σ : St} {S S1 : Sta} {H H1 : Hp} {Q : VK} {Q' : PQ} (u : Up K σ S H Q Q') (n : Nx σ S H σ S1 H1) (r : Rel K H1 σ S1) : Fin K H1 Q (fun z => Q' z S1) := fun z c H' s rp q => u z c H' S1 (n.trans (.same s)) (r.same s) rp q
theorem Rep.nx {K : PySem.W.Frag} {σ : St} {S S1 : Sta} {H H1 : Hp} {σ' : St} {v : V} {d : D} (n : Nx σ S H σ' S1 H1) (h : Rep K H v d) : Rep K H1 v d := h.step n.st
theorem RepAll.nx {K : PySem.W.Frag} {σ : St} {S S1 : Sta} {H H1 : Hp} {σ' : St} {v : List V} {d : List D} (n : Nx σ S H σ' S1 H1) (h : RepAll K H v d) : RepAll K H1 v d := h.step n.st
variable {a b : Expr} {ta tb : PTE} {pos : Pos} {o : Op2}
theorem two {W : WX} {r : R2} (hl : ∀ (H : Hp) (x y : V) (d e : D) (Q : VK) (Q' : D → Prop), Rep X.K H x d → Rep X.K H y e → o d e Q' → Fin X.K H Q Q' → r x y H Q) : ∀ σ H Q, lE X W (pOp o ta tb) σ H Q → tOp r (lE X W ta) (lE X W tb) σ H Q := by
  rintro σ H Q ⟨S, Q', E', rel, q, up, ux⟩
  refine ⟨S, _, E', rel, q, fun v d H1 S1 n1 r1 p1 q1 => ?_, ux⟩
  refine ⟨S1, _, E', r1, q1, fun w e H2 S2 n2 r2 p2 q2 => ?_, ux.thn n1⟩
  exact hl H2 v w d e Q _ (p1.nx n2) p2 q2 (up.fin (n1.trans n2) r2)
theorem pm_op {op : Operator} (ho : OpD X (binaryOp op) o) (ha : PM X a ta) (hb : PM X b tb) : PM X (.BinOp a op b pos) (pOp o ta tb) := fun W tk => by
  obtain ⟨r, hr, hl⟩ := ho
  exact weakE (pe_op hr (ha W tk) (hb W tk)) (two hl)
theorem pm_un {op : UnaryOp} {o : D → (D → Prop) → Prop} (ho : UnD X (unaryOp op) o) (ha : PM X a ta) : PM X (.UnaryOp op a pos) (pUn o ta) := fun W tk => by
  obtain ⟨r, hr, hl⟩ := ho
  refine weakE (pe_un hr (ha W tk)) ?_
  rintro σ H Q ⟨S, Q', E', rel, q, up, ux⟩
  exact ⟨S, _, E', rel, q, fun v d H1 S1 n1 r1 p1 q1 => hl H1 v d Q _ p1 q1 (up.fin n1 r1), ux⟩
/-- a comparison as a value -/
theorem pm_cmp {op : CmpOp} (ho : OpD X (compareOp op) o) (ha : PM X a ta) (hb : PM X b tb) (h1 : behindInMarks op b = false) : PM X (.Compare a [op] [b] pos) (pOp o ta tb) := fun W tk => by
  obtain ⟨r, hr, hl⟩ := ho
  exact weakE (pe_cmpR hr (ha W tk) (hb W tk) h1) (two hl)
/-- x[i] -/
theorem pm_ix (ho : IxD X o) (ha : PM X a ta) (hb : PM X b tb) (hpi : PlainIx b) : PM X (.Subscript a b pos) (pOp o ta tb) := fun W tk => by
  obtain ⟨r, hr, hl⟩ := ho
  exact weakE (pe_ix hr (ha W tk) (hb W tk) hpi) (two hl)
/-- x[lo:hi] -/
def POX (X : Cx) (lo : Option Expr) (t : Option PTE) : Prop := (lo = none ∧ t = none) ∨ ∃ e te, lo = some e ∧ t = some te ∧ PM X e te
def pPart : Option PTE → Sta → (Option Int → Sta → Prop) → PX → Prop
  | none => fun S Q _ => Q none S
  | some t => fun S Q E => t S (fun d S1 => ∃ i, d = .int i ∧ Q (some i) S1) E
def lO (X : Cx) (W : WX) (t : Option PTE) : TO := fun σ H Q => ∃ S Q' E', Rel X.K H σ S ∧ pPart t S Q' E' ∧ (∀ b H' S', Nx σ S H σ S' H' → Rel X.K H' σ S' → Q' b S' → Q b H') ∧ UpX X.K σ S H W E'
theorem po_of {lo : Option Expr} {t : Option PTE} {W : WX} (tk : Takes X W) (h : POX X lo t) : PO X lo (lO X W t) := by
  rcases h with ⟨rfl, rfl⟩ | ⟨e, te, rfl, rfl, he⟩
  · refine ⟨fun pins s σ H Q I q => po_none.run pins s σ H Q I ?_⟩
    obtain ⟨S, Q', E', rel, q, up, ux⟩ := q
    exact up _ _ _ .refl rel q
  · refine ⟨fun pins s σ H Q I q => (po_some (he W tk)).run pins s σ H Q I ?_⟩
    obtain ⟨S, Q', E', rel, q, up, ux⟩ := q
    refine ⟨S, _, E', rel, q, fun v d H1 S1 n1 r1 p1 q1 => ?_, ux⟩
    obtain ⟨i, rfl, q1⟩ := q1
    cases p1
    exact ⟨i, rfl, up _ _ _ n1 r1 q1⟩
def SlD (X : Cx) (o : D → Option Int → Option Int → (D → Prop) → Prop) : Prop := ∃ r, SlR X r ∧ ∀ (H : Hp) (x : V) (d : D) (lo hi : Option Int) (Q : VK) (Q' : D → Prop), Rep X.K H x d → o d lo hi Q' → Fin X.K H Q Q' → r x lo hi H Q
def pSl (o : D → Option Int → Option Int → (D → Prop) → Prop) (ta : PTE) (tl th : Option PTE) : PTE := fun S Q E => ta S (fun x S1 => pPart tl S1 (fun lo S2 => pPart th S2 (fun hi S3 => o x lo hi fun z => Q z S3) E) E) E
theorem pm_slice {o : D → Option Int → Option Int → (D → Prop) → Prop} {lo hi : Option Expr} {tl th : Option PTE} {p2 : Pos} (hr : SlD X o) (he : PM X a ta) (hl : POX X lo tl) (hu : POX X hi th) : PM X (.Subscript a (.Slice lo hi none p2) pos) (pSl o ta tl th) := fun W tk => by
  obtain ⟨r, hr, hf⟩ := hr
  refine weakE (pe_slice hr (he W tk) (po_of tk hl) (po_of tk hu)) ?_
  rintro σ H Q ⟨S, Q', E', rel, q, up, ux⟩
  refine ⟨S, _, E', rel, q, fun v d H1 S1 n1 r1 p1 q1 => ?_, ux⟩
  refine ⟨S1, _, E', r1, q1, fun l H2 S2 n2 r2 q2 => ?_, ux.thn n1⟩
  refine ⟨S2, _, E', r2, q2, fun u H3 S3 n3 r3 q3 => ?_, ux.thn (n1.trans n2)⟩
  exact hf H3 v d l u Q _ ((p1.nx n2).nx n3) q3 (up.fin ((n1.trans n2).trans n3) r3)
/-! ### argument lists, displays, calls of built-ins -/
def pNil : PTA := fun S Q _ => Q [] S
def pCons (t : PTE) (u : PTA) : PTA := fun S Q E => t S (fun x S1 => u S1 (fun xs S2 => Q (x :: xs) S2) E) E
variable {e : Expr} {es : List Expr} {te : PTE} {t : PTA}
theorem pma_nil : PMA X [] pNil := fun W _ => weakA pa_nil fun σ H Q => by
  rintro ⟨S, Q', E', rel, q, up, _⟩
  exact up _ _ _ _ .refl rel .nil q
theorem pma_cons (ha : PM X e te) (hr : PMA X es t) (hs : starEach (e :: es) X.env = (false, eval e X.env) :: starEach es X.env := by rfl) : PMA X (e :: es) (pCons te t) := fun W tk => weakA (pa_cons (ha W tk) (hr W tk) hs) fun σ H Q => by
  rintro ⟨S, Q', E', rel, q, up, ux⟩
  refine ⟨S, _, E', rel, q, fun v d H1 S1 n1 r1 p1 q1 => ?_, ux⟩
  refine ⟨S1, _, E', r1, q1, fun vs ds H2 S2 n2 r2 p2 q2 => ?_, ux.thn n1⟩
  exact up _ _ _ _ (n1.trans n2) r2 (.cons (p1.nx n2) p2) q2
def pTup (t : PTA) : PTE := fun S Q E => t S (fun ds S1 => ds.length ≤ sizeLine ∧ Q (.tup ds) S1) E
def pLst (t : PTA) : PTE := fun S Q E => t S (fun ds S1 => ds.length ≤ sizeLine ∧ Q (.lst ds) S1) E
theorem pm_tup {k : Nat} (h : PMA X es t) : PM X (.Tuple es k pos) (pTup t) := fun W tk => weakE (pe_tup (h W tk)) fun σ H Q => by
  rintro ⟨S, Q', E', rel, q, up, ux⟩
  refine ⟨S, _, E', rel, q, fun vs ds H1 S1 n1 r1 p1 q1 => ⟨by rw [p1.length]; exact q1.1, fun p hp => ?_⟩, ux⟩
  have s : Same H1 (upd H1 p (.tup vs)) := same_new hp
  exact up _ _ _ _ (n1.trans (.same s)) (r1.same s) (.tup (.of upd_same) (p1.step (A := fun _ => False) (Step.of_same s))) q1.2
theorem same_frz {H : Hp} {p : Addr} {u w : HO} (hp : H p = none) : Same H (upd (upd H p u) p w) := by rw [upd_upd]; exact same_new hp
theorem pm_lst (h : PMA X es t) : PM X (.List es pos) (pLst t) := fun W tk => weakE (pe_frz (pe_lst (h W tk))) fun σ H Q => by
  rintro ⟨S, Q', E', rel, q, up, ux⟩
  refine ⟨S, _, E', rel, q, fun vs ds H1 S1 n1 r1 p1 q1 => ⟨by rw [p1.length]; exact q1.1, fun p hp => ?_⟩, ux⟩
  refine .inr ⟨p, _, rfl, upd_same, .inl ⟨_, rfl⟩, fun o => ?_⟩
  have s : Same H1 (upd (upd H1 p (.lst vs)) p (.frz o (.lst vs))) := same_frz hp
  exact up _ _ _ _ (n1.trans (.same s)) (r1.same s) (.lst (.inl ⟨o, upd_same⟩) (p1.step (A := fun _ => False) (Step.of_same s))) q1.2
/-- a built-in called with values -/
def pCallB (o : OpN) (t : PTA) : PTE := fun S Q E => t S (fun ds S1 => o ds fun z => Q z S1) E
theorem callB {o : OpN} {W : WX} {r : List V → Hp → VK → Prop} (hl : ∀ (H : Hp) (xs : List V) (ds : List D) (Q : VK) (Q' : D → Prop), RepAll X.K H xs ds → o ds Q' → Fin X.K H Q Q' → r xs H Q) : ∀ σ H Q, lE X W (pCallB o t) σ H Q → tCB r (lA X W t) σ H Q := by
  rintro σ H Q ⟨S, Q', E', rel, q, up, ux⟩
  exact ⟨S, _, E', rel, q, fun v d H1 S1 n1 r1 p1 q1 => hl H1 v d Q _ p1 q1 (up.fin n1 r1), ux⟩
theorem pm_callB {o : OpN} {x id : String} {p : Pos} (hc : CallD X (.builtin id) o) (hg : Gl X x) (hm : X.mg x = none) (hv : bootBuiltins x = some (.builtin id)) (ha : PMA X (e :: es) t) (hn : (x : Str) ≠ "__name__" := by decide) (hdb : ((x : Str) == ("__debug__" : Str)) = false := by decide)
    (he : starEach (e :: es) X.env = (false, eval e X.env) :: starEach es X.env := by rfl) (hpl : (backTo pos (starEach es X.env)).any (·.1) = false := by rfl) : PM X (.Call (.Name x p) (e :: es) [] pos) (pCallB o t) := fun W tk => by
  obtain ⟨r, hr, hl⟩ := hc
  exact weakE (pe_callB hr hg hm hv (ha W tk) hn hdb he hpl) (callB hl)
theorem pm_callTy {o : OpN} {x T : String} {p : Pos} (hc : CallD X (.type T) o) (hg : Gl X x) (hm : X.mg x = none) (hv : bootBuiltins x = some (.type T)) (ha : PMA X (e :: es) t) (hn : (x : Str) ≠ "__name__" := by decide) (hdb : ((x : Str) == ("__debug__" : Str)) = false := by decide)
    (he : starEach (e :: es) X.env = (false, eval e X.env) :: starEach es X.env := by rfl) (hpl : (backTo pos (starEach es X.env)).any (·.1) = false := by rfl) : PM X (.Call (.Name x p) (e :: es) [] pos) (pCallB o t) := fun W tk => by
  obtain ⟨r, hr, hl⟩ := hc
  exact weakE (pe_callTy hr hg hm hv (ha W tk) hn hdb he hpl) (callB hl)
/-! ### tests -/
variable {tA tB : PTT} {rest : List Expr}
/-- the truth of data -/
def tru : D → Option Bool
  | .bl b => some b
  | .non => some false
  | .int i => some (i != 0)
  | .str x => if x.length ≤ sizeLine then some (x.length != 0) else none
  | .tup xs => some (!xs.isEmpty)
  | .lst xs => some (!xs.isEmpty)
  | _ => none
def pTest (t : PTE) : PTT := fun S Q E => t S (fun d S1 => ∃ b, d = .bl b ∧ Q b S1) E
theorem pmt_val (h : PM X e te) (he : ∀ whole, isTrue e X.env whole = (do let v ← whole; standAt e.pos; holding [v] (truthy v)) := by intro _; rfl) : PMT X e (pTest te) := fun W tk => weakT (pt_val (h W tk) he) fun σ H Q => by
  rintro ⟨S, Q', E', rel, q, up, ux⟩
  refine ⟨S, _, E', rel, q, fun v d H1 S1 n1 r1 p1 q1 => ?_, ux⟩
  obtain ⟨b, rfl, q1⟩ := q1
  cases p1
  exact ⟨b, rfl, up _ _ _ n1 r1 q1⟩
theorem pmt_cmp {op : CmpOp} (ho : OpD X (compareOp op) o) (ha : PM X a ta) (hb : PM X b tb) (h1 : behindInMarks op b = false) : PMT X (.Compare a [op] [b] pos) (pTest (pOp o ta tb)) := fun W tk => by
  obtain ⟨r, hr, hl⟩ := ho
  refine weakT (pt_cmpR hr (ha W tk) (hb W tk) h1) ?_
  rintro σ H Q ⟨S, Q', E', rel, q, up, ux⟩
  refine two (W := W) hl σ H _ ⟨S, _, E', rel, q, fun v d H1 S1 n1 r1 p1 q1 => ?_, ux⟩
  obtain ⟨b, rfl, q1⟩ := q1
  cases p1
  exact ⟨b, rfl, up _ _ _ n1 r1 q1⟩
def pNot (t : PTT) : PTT := fun S Q E => t S (fun b S1 => Q (!b) S1) E
theorem pmt_not (h : PMT X a tA) : PMT X (.UnaryOp .Not a pos) (pNot tA) := fun W tk => weakT (pt_not (h W tk)) fun σ H Q => by
  rintro ⟨S, Q', E', rel, q, up, ux⟩
  exact ⟨S, _, E', rel, q, fun b H1 S1 n1 r1 q1 => up _ _ _ n1 r1 q1, ux⟩
def pAnd (t u : PTT) : PTT := fun S Q E => t S (fun b S1 => if b = true then u S1 Q E else Q false S1) E
def pOr (t u : PTT) : PTT := fun S Q E => t S (fun b S1 => if b = true then Q true S1 else u S1 Q E) E
theorem pmw_and1 (h : PMT X a tA) : PMW X (.BoolOp .And [a] pos) tA := fun W tk => pw_and1 (h W tk)
theorem pmw_or1 (h : PMT X a tA) : PMW X (.BoolOp .Or [a] pos) tA := fun W tk => pw_or1 (h W tk)
theorem pmw_and (ha : PMT X a tA) (hb : PMW X (.BoolOp .And (b :: rest) pos) tB) : PMW X (.BoolOp .And (a :: b :: rest) pos) (pAnd tA tB) := fun W tk => weakW (pw_and (ha W tk) (hb W tk)) fun σ H Q => by
  rintro ⟨S, Q', E', rel, q, up, ux⟩
  refine ⟨S, _, E', rel, q, fun c H1 S1 n1 r1 q1 => ?_, ux⟩
  cases c with
  | true => exact ⟨S1, _, E', r1, q1, fun d H2 S2 n2 r2 q2 => up _ _ _ (n1.trans n2) r2 q2, ux.thn n1⟩
  | false => exact up _ _ _ n1 r1 q1
theorem pmw_or (ha : PMT X a tA) (hb : PMW X (.BoolOp .Or (b :: rest) pos) tB) : PMW X (.BoolOp .Or (a :: b :: rest) pos) (pOr tA tB) := fun W tk => weakW (pw_or (ha W tk) (hb W tk)) fun σ H Q => by
  rintro ⟨S, Q', E', rel, q, up, ux⟩
  refine ⟨S, _, E', rel, q, fun c H1 S1 n1 r1 q1 => ?_, ux⟩
  cases c with
  | true => exact up _ _ _ n1 r1 q1
  | false => exact ⟨S1, _, E', r1, q1, fun d H2 S2 n2 r2 q2 => up _ _ _ (n1.trans n2) r2 q2, ux.thn n1⟩
theorem pmt_w (h : PMW X a tA) : PMT X a tA := fun W tk => (h W tk).pt
/-- and, or, not as values -/
def pAndV (ta tb : PTE) : PTE := fun S Q E => ta S (fun x S1 => ∃ c, x = .bl c ∧ if c = true then tb S1 Q E else Q (.bl false) S1) E
def pOrV (ta tb : PTE) : PTE := fun S Q E => ta S (fun x S1 => ∃ c, x = .bl c ∧ if c = true then Q (.bl true) S1 else tb S1 Q E) E
def pNotV (ta : PTE) : PTE := fun S Q E => ta S (fun x S1 => ∃ c, x = .bl c ∧ Q (.bl (!c)) S1) E
theorem pm_one {op} {t : PTE} (h : PM X a t) : PM X (.BoolOp op [a] pos) t := fun W tk => pe_one (h W tk)
theorem pm_and (ha : PM X a ta) (hb : PM X (.BoolOp .And (b :: rest) pos) tb) : PM X (.BoolOp .And (a :: b :: rest) pos) (pAndV ta tb) := fun W tk => weakE (pe_and (ha W tk) (hb W tk)) fun σ H Q => by
  rintro ⟨S, Q', E', rel, q, up, ux⟩
  refine ⟨S, _, E', rel, q, fun v d H1 S1 n1 r1 p1 q1 => ?_, ux⟩
  obtain ⟨c, rfl, q1⟩ := q1
  cases p1
  refine ⟨c, rfl, ?_⟩
  cases c with
  | true => exact ⟨S1, _, E', r1, q1, fun v d H2 S2 n2 r2 p2 q2 => up _ _ _ _ (n1.trans n2) r2 p2 q2, ux.thn n1⟩
  | false => exact up _ _ _ _ n1 r1 (.bl _) q1
theorem pm_or (ha : PM X a ta) (hb : PM X (.BoolOp .Or (b :: rest) pos) tb) : PM X (.BoolOp .Or (a :: b :: rest) pos) (pOrV ta tb) := fun W tk => weakE (pe_or (ha W tk) (hb W tk)) fun σ H Q => by
  rintro ⟨S, Q', E', rel, q, up, ux⟩
  refine ⟨S, _, E', rel, q, fun v d H1 S1 n1 r1 p1 q1 => ?_, ux⟩
  obtain ⟨c, rfl, q1⟩ := q1
  cases p1
  refine ⟨c, rfl, ?_⟩
  cases c with
  | true => exact up _ _ _ _ n1 r1 (.bl _) q1
  | false => exact ⟨S1, _, E', r1, q1, fun v d H2 S2 n2 r2 p2 q2 => up _ _ _ _ (n1.trans n2) r2 p2 q2, ux.thn n1⟩
theorem pm_not (ha : PM X a ta) : PM X (.UnaryOp .Not a pos) (pNotV ta) := fun W tk => weakE (pe_not (ha W tk)) fun σ H Q => by
  rintro ⟨S, Q', E', rel, q, up, ux⟩
  refine ⟨S, _, E', rel, q, fun v d H1 S1 n1 r1 p1 q1 => ?_, ux⟩
  obtain ⟨c, rfl, q1⟩ := q1
  cases p1
  exact ⟨c, rfl, up _ _ _ _ n1 r1 (.bl _) q1⟩
def pIf (t : PTT) (ta tb : PTE) : PTE := fun S Q E => t S (fun b S1 => if b = true then ta S1 Q E else tb S1 Q E) E
theorem pm_ifExp {c : Expr} (hc : PMT X c tA) (ha : PM X a ta) (hb : PM X b tb) : PM X (.IfExp c a b pos) (pIf tA ta tb) := fun W tk => weakE (pe_ifExp (hc W tk) (ha W tk) (hb W tk)) fun σ H Q => by
  rintro ⟨S, Q', E', rel, q, up, ux⟩
  refine ⟨S, _, E', rel, q, fun c H1 S1 n1 r1 q1 => ?_, ux⟩
  cases c <;> exact ⟨S1, _, E', r1, q1, fun v d H2 S2 n2 r2 p2 q2 => up _ _ _ _ (n1.trans n2) r2 p2 q2, ux.thn n1⟩
end
end Pl
set_option Elab.async false
set_option linter.all false
set_option maxRecDepth 100000
set_option maxHeartbeats 4000000
/-! Pl, part 3: statements -/
namespace Pl
open PySem PySem.Spec L2
open PyProof.Rows (envOfC)
structure PEnds where
  nx : Sta → Prop
  rt : D → Sta → Prop
  bk : Sta → Prop := fun _ => False
  ct : Sta → Prop := fun _ => False
  ex : PX := fun _ _ => False
abbrev PTS := PEnds → Sta → Prop
def UpS (K : PySem.W.Frag) (σ : St) (S : Sta) (H : Hp) (P : St → Hp → Prop) (P' : Sta → Prop) : Prop := ∀ σ' H' S', Nx σ S H σ' S' H' → Rel K H' σ' S' → P' S' → P σ' H'
structure UpD (K : PySem.W.Frag) (σ : St) (S : Sta) (H : Hp) (W : WX) (D : Ends) (P : PEnds) : Prop where
  nx : UpS K σ S H D.nx P.nx
  rt : ∀ v d σ' H' S', Nx σ S H σ' S' H' → Rel K H' σ' S' → Rep K H' v d → P.rt d S' → D.rt v H'
  bk : UpS K σ S H D.bk P.bk
  ct : UpS K σ S H D.ct P.ct
  ex : ∀ x cls dd σ' H' S', Nx σ S H σ' S' H' → Rel K H' σ' S' → XR K H' x cls dd → P.ex x S' → W cls dd σ' H'
def lS (X : Cx) (W : WX) (t : PTS) : TS := fun D σ H => ∃ S P, Rel X.K H σ S ∧ t P S ∧ UpD X.K σ S H W D P
def PMS (X : Cx) (st : Stmt) (t : PTS) : Prop := ∀ W, Takes X W → L2.PS X st (lS X W t)
def PMSs (X : Cx) (st : List Stmt) (t : PTS) : Prop := ∀ W, Takes X W → PSs X st (lS X W t)
section
variable {K : PySem.W.Frag} {σ σ1 : St} {S S1 : Sta} {H H1 : Hp} {W : WX} {D : Ends} {P : PEnds}
theorem UpS.thn {R : St → Hp → Prop} {R' : Sta → Prop} (u : UpS K σ S H R R') (n : Nx σ S H σ1 S1 H1) : UpS K σ1 S1 H1 R R' := fun σ' H' S' n' r q => u σ' H' S' (n.trans n') r q
theorem UpD.thn (u : UpD K σ S H W D P) (n : Nx σ S H σ1 S1 H1) : UpD K σ1 S1 H1 W D P :=
  ⟨u.nx.thn n, fun v d σ' H' S' n' r p q => u.rt v d σ' H' S' (n.trans n') r p q, u.bk.thn n, u.ct.thn n, fun x c d σ' H' S' n' r p q => u.ex x c d σ' H' S' (n.trans n') r p q⟩
theorem UpD.ux (u : UpD K σ S H W D P) : UpX K σ S H W P.ex := fun x c d H' S' n r p q => u.ex x c d σ H' S' n r p q
end
section
variable {X : Cx} {st : Stmt} {rest : List Stmt} {t u : PTS} {e : Expr} {te : PTE} {pos : Pos}
def pNext : PTS := fun P S => P.nx S
def pSeq (t u : PTS) : PTS := fun P S => t { P with nx := u P } S
theorem pmss_nil : PMSs X [] pNext := fun W tk => weakSs pss_nil fun D σ H => by
  rintro ⟨S, P, rel, q, up⟩
  exact up.nx _ _ _ .refl rel q
theorem pmss_cons (h1 : PMS X st t) (h2 : PMSs X rest u) : PMSs X (st :: rest) (pSeq t u) := fun W tk => weakSs (pss_cons (h1 W tk) (h2 W tk)) fun D σ H => by
  rintro ⟨S, P, rel, q, up⟩
  refine ⟨S, _, rel, q, ⟨fun σ' H' S' n r q1 => ⟨S', P, r, q1, up.thn n⟩, up.rt, up.bk, up.ct, up.ex⟩⟩
theorem pmss_one (h1 : PMS X st t) : PMSs X [st] t := fun W tk => pss_one (h1 W tk)
def pBreak : PTS := fun P S => P.bk S
def pCont : PTS := fun P S => P.ct S
theorem pms_pass : PMS X (.Pass pos) pNext := fun W tk => weakS ps_pass fun D σ H => by
  rintro ⟨S, P, rel, q, up⟩
  exact up.nx _ _ _ .refl rel q
theorem pms_break : PMS X (.Break pos) pBreak := fun W tk => weakS ps_break fun D σ H => by
  rintro ⟨S, P, rel, q, up⟩
  exact up.bk _ _ _ .refl rel q
theorem pms_continue : PMS X (.Continue pos) pCont := fun W tk => weakS ps_continue fun D σ H => by
  rintro ⟨S, P, rel, q, up⟩
  exact up.ct _ _ _ .refl rel q
def pDrop (te : PTE) : PTS := fun P S => te S (fun _ S1 => P.nx S1) P.ex
theorem pms_expr (he : PM X e te) (hs : swapsWith e none pos.line X.env = pure false := by rfl) : PMS X (.Expr e pos) (pDrop te) := fun W tk => weakS (ps_expr (he W tk) hs) fun D σ H => by
  rintro ⟨S, P, rel, q, up⟩
  exact ⟨S, _, _, rel, q, fun v d H1 S1 n1 r1 p1 q1 => up.nx _ _ _ n1 r1 q1, up.ux⟩
def pRet (te : PTE) : PTS := fun P S => te S P.rt P.ex
theorem pms_ret (he : PM X e te) : PMS X (.Return (some e) pos) (pRet te) := fun W tk => weakS (ps_ret (he W tk)) fun D σ H => by
  rintro ⟨S, P, rel, q, up⟩
  exact ⟨S, _, _, rel, q, fun v d H1 S1 n1 r1 p1 q1 => up.rt v d σ H1 S1 n1 r1 p1 q1, up.ux⟩
def pRetN : PTS := fun P S => P.rt .non S
theorem pms_retN : PMS X (.Return none pos) pRetN := fun W tk => weakS ps_retN fun D σ H => by
  rintro ⟨S, P, rel, q, up⟩
  exact up.rt .non .non σ H S .refl rel .non q
def pIfS (c : PTT) (t u : PTS) : PTS := fun P S => c S (fun b S1 => if b = true then t P S1 else u P S1) P.ex
theorem pms_if {c : Expr} {a b : List Stmt} {tc : PTT} (hc : PMT X c tc) (ha : PMSs X a t) (hb : PMSs X b u) : PMS X (.If c a b pos) (pIfS tc t u) := fun W tk => weakS (ps_if (hc W tk) (ha W tk) (hb W tk)) fun D σ H => by
  rintro ⟨S, P, rel, q, up⟩
  refine ⟨S, _, _, rel, q, fun d H1 S1 n1 r1 q1 => ?_, up.ux⟩
  cases d <;> exact ⟨S1, P, r1, q1, up.thn n1⟩
/-! ### storing -/
/-- a slot gets a value -/
theorem Rel.put {K : PySem.W.Frag} {H : Hp} {σ : St} {S : Sta} {i : Nat} {v : V} {d : D} (r : Rel K H σ S) (h : Rep K H v d) :
    Nx σ S H (σ.set i (some v)) ⟨S.ρ.set i (.val d), S.W⟩ H ∧ Rel K H (σ.set i (some v)) ⟨S.ρ.set i (.val d), S.W⟩ := by
  have back : ∀ j b, OwnS (σ.set i (some v)) (S.ρ.set i (.val d)) j b → j ≠ i ∧ OwnS σ S.ρ j b := fun j b h => by
    obtain ⟨⟨o', h1⟩, h2⟩ := h
    by_cases hj : j = i
    · subst hj
      by_cases hl : j < S.ρ.length
      · rw [List.getElem?_set_self hl] at h1; cases h1
      · rw [List.getElem?_eq_none (by simpa using hl)] at h1; cases h1
    · rw [List.getElem?_set_ne (Ne.symm hj)] at h1 h2
      exact ⟨hj, ⟨o', h1⟩, h2⟩
  refine ⟨⟨Step.refl, fun _ h => h, fun x h => .inl ?_⟩, ⟨by simpa using r.len, fun j s es => ?_, fun j k b h1 h2 => r.inj j k b (back _ _ h1).2 (back _ _ h2).2, r.wor, fun j b h => r.dis j b (back _ _ h).2⟩⟩
  · rcases h with ⟨j, h⟩ | h
    · exact .inl ⟨j, (back j x h).2⟩
    · exact .inr h
  · have es' : (S.ρ.set i (.val d))[j]? = some s := es
    by_cases hj : j = i
    · subst hj
      by_cases hl : j < S.ρ.length
      · rw [List.getElem?_set_self hl] at es'; cases es'
        exact ⟨v, List.getElem?_set_self (by rw [r.len]; exact hl), h⟩
      · rw [List.getElem?_eq_none (by simpa using hl)] at es'; cases es'
    · rw [List.getElem?_set_ne (Ne.symm hj)] at es'
      have q := r.slot j s es'
      have e2 : (σ.set i (some v))[j]? = σ[j]? := List.getElem?_set_ne (Ne.symm hj)
      rw [e2]; exact q
/-- a slot gets a new own object -/
theorem Rel.putOwn {K : PySem.W.Frag} {H : Hp} {σ : St} {S : Sta} {i : Nat} {a : Addr} {o : Own} (r : Rel K H σ S) (h : OwnAt K H a o) (n : ¬ Oa σ S a) :
    Rel K H (σ.set i (some (.ref a))) ⟨S.ρ.set i (.own o), S.W⟩ ∧ ∀ x, Oa (σ.set i (some (.ref a))) ⟨S.ρ.set i (.own o), S.W⟩ x → Oa σ S x ∨ x = a := by
  have back : ∀ j b, OwnS (σ.set i (some (.ref a))) (S.ρ.set i (.own o)) j b → (j = i ∧ b = a) ∨ (j ≠ i ∧ OwnS σ S.ρ j b) := fun j b h => by
    obtain ⟨⟨o', h1⟩, h2⟩ := h
    by_cases hj : j = i
    · subst hj
      by_cases hl : j < σ.length
      · rw [List.getElem?_set_self hl] at h2; cases h2; exact .inl ⟨rfl, rfl⟩
      · rw [List.getElem?_eq_none (by simpa using hl)] at h2; cases h2
    · rw [List.getElem?_set_ne (Ne.symm hj)] at h1 h2
      exact .inr ⟨hj, ⟨o', h1⟩, h2⟩
  refine ⟨⟨by simpa using r.len, fun j s es => ?_, fun j k b h1 h2 => ?_, r.wor, fun j b h => ?_⟩, fun x h => ?_⟩
  · have es' : (S.ρ.set i (.own o))[j]? = some s := es
    by_cases hj : j = i
    · subst hj
      by_cases hl : j < S.ρ.length
      · rw [List.getElem?_set_self hl] at es'; cases es'
        exact ⟨a, List.getElem?_set_self (by rw [r.len]; exact hl), h⟩
      · rw [List.getElem?_eq_none (by simpa using hl)] at es'; cases es'
    · rw [List.getElem?_set_ne (Ne.symm hj)] at es'
      have q := r.slot j s es'
      have e2 : (σ.set i (some (.ref a)))[j]? = σ[j]? := List.getElem?_set_ne (Ne.symm hj)
      rw [e2]; exact q
  · rcases back _ _ h1 with ⟨e1, e2⟩ | ⟨n1, g1⟩
    · rcases back _ _ h2 with ⟨e3, _⟩ | ⟨n2, g2⟩
      · rw [e1, e3]
      · subst e2; exact absurd (.inl ⟨k, g2⟩) n
    · rcases back _ _ h2 with ⟨e3, e4⟩ | ⟨n2, g2⟩
      · subst e4; exact absurd (.inl ⟨j, g1⟩) n
      · exact r.inj j k b g1 g2
  · rcases back _ _ h with ⟨rfl, rfl⟩ | ⟨_, h⟩
    · cases q : S.W b with
      | none => rfl
      | some o' => exact absurd (.inr (by rw [q]; exact fun z => nomatch z)) n
    · exact r.dis j b h
  · rcases h with ⟨j, h⟩ | h
    · rcases back _ _ h with ⟨_, rfl⟩ | ⟨_, h⟩
      · exact .inr rfl
      · exact .inl (.inl ⟨j, h⟩)
    · exact .inl (.inr h)
/-- a target takes a value: names, tuples of names; vs: the slots that it may store -/
abbrev PTG := D → Sta → (Sta → Prop) → Prop
abbrev PTGs := List D → Sta → (Sta → Prop) → Prop
def UpG (vs : List Nat) (K : PySem.W.Frag) (σ : St) (S : Sta) (H : Hp) (P : St → Hp → Prop) (P' : Sta → Prop) : Prop := ∀ σ' H' S', wipe σ' vs = wipe σ vs → Nx σ S H σ' S' H' → Rel K H' σ' S' → P' S' → P σ' H'
def lG (X : Cx) (vs : List Nat) (t : PTG) : TG := fun v σ H Q => ∃ d S Q', Rel X.K H σ S ∧ Rep X.K H v d ∧ t d S Q' ∧ UpG vs X.K σ S H Q Q'
def lGs (X : Cx) (vs : List Nat) (t : PTGs) : TGs := fun xs σ H Q => ∃ ds S Q', Rel X.K H σ S ∧ RepAll X.K H xs ds ∧ t ds S Q' ∧ UpG vs X.K σ S H Q Q'
def PMG (X : Cx) (vs : List Nat) (e : Expr) (t : PTG) : Prop := PG X e (lG X vs t)
def PMGs (X : Cx) (vs : List Nat) (e : List Expr) (t : PTGs) : Prop := PGs X e (lGs X vs t)
theorem weakG {X : Cx} {e : Expr} {t t' : TG} (h : PG X e t) (w : ∀ v σ H Q, t' v σ H Q → t v σ H Q) : PG X e t' := ⟨fun pins s σ H v u Q I r q => h.run pins s σ H v u Q I r (w _ _ _ _ q)⟩
theorem weakGs {X : Cx} {e : List Expr} {t t' : TGs} (h : PGs X e t) (w : ∀ v σ H Q, t' v σ H Q → t v σ H Q) : PGs X e t' := ⟨fun pins s σ H v u Q I r q => h.run pins s σ H v u Q I r (w _ _ _ _ q)⟩
theorem wipe_get (σ : St) : ∀ (vs : List Nat) (j : Nat), (wipe σ vs)[j]? = if j ∈ vs then σ[j]?.map (fun _ => none) else σ[j]?
  | [], j => by simp [wipe]
  | v :: vs, j => by
    unfold wipe
    by_cases hj : v = j
    · subst hj
      by_cases hl : v < σ.length
      · rw [List.getElem?_set_self (by rw [wipe_length]; exact hl), if_pos (by simp), List.getElem?_eq_getElem hl]; rfl
      · rw [List.getElem?_eq_none (by rw [List.length_set, wipe_length]; omega), if_pos (by simp), List.getElem?_eq_none (by omega)]; rfl
    · rw [List.getElem?_set_ne hj, wipe_get σ vs j]
      have e : (j ∈ v :: vs) ↔ j ∈ vs := by simp [List.mem_cons, Ne.symm hj]
      by_cases hm : j ∈ vs
      · rw [if_pos hm, if_pos (e.mpr hm)]
      · rw [if_neg hm, if_neg (fun z => hm (e.mp z))]
theorem wipe_set {σ : St} {vs : List Nat} {i : Nat} {x : Option V} (hi : i ∈ vs) : wipe (σ.set i x) vs = wipe σ vs := List.ext_getElem? fun j => by
  rw [wipe_get, wipe_get]
  by_cases hj : j ∈ vs
  · rw [if_pos hj, if_pos hj]
    by_cases e : i = j
    · subst e
      by_cases hl : i < σ.length
      · rw [List.getElem?_set_self hl, List.getElem?_eq_getElem hl]; rfl
      · rw [List.getElem?_eq_none (by simpa using hl), List.getElem?_eq_none (by omega)]
    · rw [List.getElem?_set_ne e]
  · rw [if_neg hj, if_neg hj, List.getElem?_set_ne (fun (z : i = j) => hj (z ▸ hi))]
def pgName (i : Nat) : PTG := fun d S Q => Q ⟨S.ρ.set i (.val d), S.W⟩
theorem pmg_of {vs : List Nat} {i : Nat} (h : PG X e (gName i)) (hi : i ∈ vs := by decide) : PMG X vs e (pgName i) := weakG h fun v σ H Q => by
  rintro ⟨d, S, Q', rel, rp, q, up⟩
  obtain ⟨nx, r⟩ := rel.put (i := i) rp
  exact up _ _ _ (wipe_set hi) nx r q
def pgNil : PTGs := fun ds S Q => ds = [] ∧ Q S
def pgCons (t : PTG) (u : PTGs) : PTGs := fun ds S Q => ∃ d r, ds = d :: r ∧ t d S fun S1 => u r S1 Q
theorem pmgs_nil {vs : List Nat} : PMGs X vs [] pgNil := weakGs pgs_nil fun xs σ H Q => by
  rintro ⟨ds, S, Q', rel, rp, ⟨rfl, q⟩, up⟩
  cases rp
  exact ⟨rfl, up _ _ _ rfl .refl rel q⟩
theorem pmgs_cons {vs : List Nat} {es : List Expr} {t : PTG} {u : PTGs} (h1 : PMG X vs e t) (h2 : PMGs X vs es u) (hs : (assignEach (e :: es) X.env).map (·.2) = assign e X.env :: (assignEach es X.env).map (·.2) := by rfl) : PMGs X vs (e :: es) (pgCons t u) := weakGs (pgs_cons h1 h2 hs) fun xs σ H Q => by
  rintro ⟨ds, S, Q', rel, rp, ⟨d, r, rfl, q⟩, up⟩
  cases rp with
  | cons p pr =>
    exact ⟨_, _, rfl, d, S, _, rel, p, q, fun σ1 H1 S1 w1 n1 r1 q1 => ⟨r, S1, Q', r1, pr.nx n1, q1, fun σ' H' S' w n' r' q' => up σ' H' S' (w.trans w1) (n1.trans n') r' q'⟩⟩
/-- (a, b) = a tuple -/
def pgTup (n : Nat) (t : PTGs) : PTG := fun d S Q => ∃ ds, d = .tup ds ∧ ds.length = n ∧ t ds S Q
theorem pmg_tup {vs : List Nat} {es : List Expr} {k : Nat} {t : PTGs} {n : Nat} (hc : X.calm = true) (h : PMGs X vs es t) (hn : (assignEach es X.env).length = n := by rfl) (hst : (assignEach es X.env).findIdx? (·.1) = none := by rfl) : PMG X vs (.Tuple es k pos) (pgTup n t) :=
  weakG (pg_tup hc h hn hst) fun v σ H Q => by
    rintro ⟨d, S, Q', rel, rp, ⟨ds, rfl, hl, q⟩, up⟩
    cases rp with
    | tup hq ha => exact ⟨_, _, rfl, hq, by rw [ha.length]; exact hl, ds, S, Q', rel, ha, q, up⟩
def pAsg (te : PTE) (g : PTG) : PTS := fun P S => te S (fun d S1 => g d S1 P.nx) P.ex
theorem asg {vs : List Nat} {W : WX} {g : PTG} : ∀ D σ H, lS X W (pAsg te g) D σ H → tAsg (lE X W te) (lG X vs g) D σ H := by
  rintro D σ H ⟨S, P, rel, q, up⟩
  exact ⟨S, _, _, rel, q, fun v d H1 S1 n1 r1 p1 q1 => ⟨d, S1, _, r1, p1, q1, fun σ' H' S' _ n' r' q' => up.nx σ' H' S' (n1.trans n') r' q'⟩, up.ux⟩
theorem pms_asg {vs : List Nat} {tg : Expr} {g : PTG} (he : PM X e te) (hg : PMG X vs tg g) (hs : swapsWithSole [tg] e pos.line X.env = pure false := by rfl) (hw : swappedStores [tg] e X.env = pure none := by rfl)
    (h1 : (assignEach [tg] X.env).map (·.2) = [assign tg X.env] := by rfl) : PMS X (.Assign [tg] e pos) (pAsg te g) := fun W tk => weakS (ps_asg (he W tk) hg hs hw h1) asg
def pSet (i : Nat) (te : PTE) : PTS := fun P S => te S (fun d S1 => P.nx ⟨S1.ρ.set i (.val d), S1.W⟩) P.ex
/-- x = e, whatever rule of the layer does it -/
theorem pms_set {i : Nat} {st : Stmt} (h : ∀ W, Takes X W → L2.PS X st (tAsg (lE X W te) (gName i))) : PMS X st (pSet i te) := fun W tk => weakS (h W tk) fun D σ H => by
  rintro ⟨S, P, rel, q, up⟩
  refine ⟨S, _, _, rel, q, fun v d H1 S1 n1 r1 p1 q1 => ?_, up.ux⟩
  obtain ⟨nx, r⟩ := r1.put (i := i) p1
  exact up.nx _ _ _ (n1.trans nx) r q1
/-- a, b = x, y -/
def pPar (i j : Nat) (t : PTA) : PTS := fun P S => t S (fun ds S1 => ∃ x y, ds = [x, y] ∧ P.nx ⟨(S1.ρ.set i (.val x)).set j (.val y), S1.W⟩) P.ex
theorem pms_par {i j : Nat} {t : PTA} {st : Stmt} (h : ∀ W, Takes X W → L2.PS X st (tPar i j (lA X W t))) : PMS X st (pPar i j t) := fun W tk => weakS (h W tk) fun D σ H => by
  rintro ⟨S, P, rel, q, up⟩
  refine ⟨S, _, _, rel, q, fun vs ds H1 S1 n1 r1 p1 q1 => ?_, up.ux⟩
  obtain ⟨x, y, rfl, q1⟩ := q1
  cases p1 with
  | cons p p' =>
    cases p' with
    | cons p' p'' =>
      cases p''
      obtain ⟨na, ra⟩ := r1.put (i := i) p
      obtain ⟨nb, rb⟩ := ra.put (i := j) p'
      exact ⟨_, _, rfl, up.nx _ _ _ ((n1.trans na).trans nb) rb q1⟩
/-! ### raise -/
def pRaise (x : Exn) : PTS := fun P S => P.ex x S
theorem pms_raise {cls : Value} (h : ∀ W, Takes X W → L2.PS X st (fun _ σ H => W cls none σ H)) : PMS X st (pRaise ⟨cls, none⟩) := fun W tk => weakS (h W tk) fun D σ H => by
  rintro ⟨S, P, rel, q, up⟩
  exact up.ex ⟨cls, none⟩ cls none σ H S .refl rel ⟨rfl, rfl⟩ q
end
/-! ### defs -/
/-- what a def promises, over data: the arguments, the shared own objects; what comes back -/
abbrev PFn := List D → (Addr → Option Own) → (D → (Addr → Option Own) → Prop) → (Exn → (Addr → Option Own) → Prop) → Prop
structure NxW (W : Addr → Option Own) (H : Hp) (W' : Addr → Option Own) (H' : Hp) : Prop where
  st : Step (fun a => W a ≠ none) H H'
  kn : ∀ b, H' b = none → H b = none
  oa : ∀ a, W' a ≠ none → W a ≠ none ∨ H a = none
def spP (K : PySem.W.Frag) (n : Nat) (φ : PFn) : Sp := fun vs H Q E => ∃ ds Wo Q' E', vs.length = n ∧ RepAll K H vs ds ∧ RelW K H Wo ∧ φ ds Wo Q' E' ∧
  (∀ v d H' W', NxW Wo H W' H' → RelW K H' W' → Rep K H' v d → Q' d W' → Q v H') ∧ (∀ x cls dd H' W', NxW Wo H W' H' → RelW K H' W' → XR K H' x cls dd → E' x W' → E cls dd H')
/-- the slots at a def's entry -/
def start0 (n : Nat) (ds : List D) : List Slot := ds.map .val ++ List.replicate (n - ds.length) .emp
theorem start_rel {K : PySem.W.Frag} {H : Hp} {N : List Str} {vs : List V} {ds : List D} {Wo : Addr → Option Own} (r : RepAll K H vs ds) (w : RelW K H Wo) :
    Rel K H (start N vs) ⟨start0 N.length ds, Wo⟩ ∧ ∀ a, Oa (start N vs) ⟨start0 N.length ds, Wo⟩ a → Wo a ≠ none := by
  have hl := r.length
  have no : ∀ (i : Nat) o, (start0 N.length ds)[i]? ≠ some (.own o) := fun i o e => by
    unfold start0 at e
    rcases List.mem_append.mp (List.mem_of_getElem? e) with h | h
    · obtain ⟨d, _, z⟩ := List.mem_map.mp h; cases z
    · have := List.eq_of_mem_replicate h; cases this
  refine ⟨⟨?_, fun i s e => ?_, fun i j a h => absurd h.1.choose_spec (no i _), w, fun i a h => absurd h.1.choose_spec (no i _)⟩, fun a h => ?_⟩
  · simp [L2.start, start0, hl]
  · have e' : (start0 N.length ds)[i]? = some s := e
    unfold start0 at e'
    by_cases hi : i < ds.length
    · rw [List.getElem?_append_left (by simpa using hi), List.getElem?_map, List.getElem?_eq_getElem hi] at e'
      cases e'
      obtain ⟨v, h1, h2⟩ := r.get (List.getElem?_eq_getElem hi)
      refine ⟨v, ?_, h2⟩
      unfold L2.start
      rw [List.getElem?_append_left (by rw [List.length_map, hl]; exact hi), List.getElem?_map, h1]
      rfl
    · rw [List.getElem?_append_right (by simpa using hi)] at e'
      have := List.eq_of_mem_replicate (List.mem_of_getElem? e')
      subst this
      trivial
  · rcases h with ⟨i, h⟩ | h
    · exact absurd h.1.choose_spec (no i _)
    · exact h
section
variable {P : Program} {w : World} {K : PySem.W.Frag} {mg : Str → Option Value} {base : Heap}
/-- THE RULE for a def: its body as a derivation, and what its reading says of data -/
theorem ok_of {x qual : Str} {st : Stmt} {f : Addr} {fd : FuncData} {N ps : List Str} {k : Nat} {φ : PFn} (F : Fun K x qual st f fd) (S : FnScope N ps (defScope st))
    (hbody : ∀ (cdv : Value) (A : Around) (outer : List Env) (s : Shared) (H : Hp) (E : XK), Room k (A.deeper (envOfC qual (defScope st) s.heap.objs.size f cdv)) →
      ∃ t, PMSs (cxOf (L2.CX P w) P w K mg base N qual (defScope st) f cdv A outer s H E) (defBody st) t ∧
        ∀ ds Wo Q E', ds.length = ps.length → φ ds Wo Q E' → t { nx := fun S => Q .non S.W, rt := fun d S => Q d S.W, ex := fun x S => E' x S.W } ⟨start0 N.length ds, Wo⟩) :
    FnOk P w K mg base (L2.CX P w) (k + 1) f fd ps (spP K ps.length φ) := by
  refine F.okX S (fun vs H Q E h => ?_) (fun cdv A outer s H vs Q E hr h => ?_)
  · obtain ⟨_, _, _, _, h, _⟩ := h; exact h
  obtain ⟨ds, Wo, Q', E', hl, rep, rw_, hφ, up, ux⟩ := h
  obtain ⟨t, ht, hq⟩ := hbody cdv A outer s H E hr
  have q := hq ds Wo Q' E' (by rw [← rep.length]; exact hl) hφ
  obtain ⟨rel, oa⟩ := start_rel (N := N) rep rw_
  have nxw : ∀ {σ' H' S'}, Nx (start N vs) ⟨start0 N.length ds, Wo⟩ H σ' S' H' → NxW Wo H S'.W H' := fun {σ' H' S'} n =>
    ⟨fun b o e q => n.st b o e (q.imp id fun z y => z (oa b y)), n.kn, fun a h => (n.oa a (.inr h)).imp (oa a) id⟩
  refine ⟨_, ht (fun cls d _ H => E cls d H) (takes_of rfl rfl rfl rfl), ⟨⟨start0 N.length ds, Wo⟩, _, rel, q, ⟨fun σ' H' S' n r q1 => up .non .non H' S'.W (nxw n) r.wor .non q1, fun v d σ' H' S' n r p q1 => up v d H' S'.W (nxw n) r.wor p q1, fun _ _ _ _ _ z => z.elim, fun _ _ _ _ _ z => z.elim,
    fun x c d σ' H' S' n r p q1 => ux x c d H' S'.W (nxw n) r.wor p q1⟩⟩⟩
/-- a promise that asks more, or promises less -/
theorem FnOk.wk {CX : CXT} {k n : Nat} {f : Addr} {fd : FuncData} {ps : List Str} {φ ψ : PFn} (F : FnOk P w K mg base CX k f fd ps (spP K n φ)) (h : ∀ ds Wo Q E, ψ ds Wo Q E → φ ds Wo Q E) : FnOk P w K mg base CX k f fd ps (spP K n ψ) :=
  F.imp fun vs H Q E ⟨ds, Wo, Q', E', h1, h2, h3, h4, h5, h6⟩ => ⟨ds, Wo, Q', E', h1, h2, h3, h _ _ _ _ h4, h5, h6⟩
end
/-! ### calls of defs -/
section
variable {X : Cx} {k n : Nat} {f : Addr} {fd : FuncData} {ps : List Str} {φ : PFn} {x : Str} {p pos : Pos} {e : Expr} {es : List Expr} {t : PTA}
/-- f(e, ..), all arguments values -/
def pCall (n : Nat) (φ : PFn) (t : PTA) : PTE := fun S Q E => t S (fun ds S1 => ds.length = n ∧ φ ds S1.W (fun d W' => Q d ⟨S1.ρ, W'⟩) (fun x W' => E x ⟨S1.ρ, W'⟩)) E
/-- back from a call: our slots stand, the shared objects are as the callee left them -/
theorem Rel.after {K : PySem.W.Frag} {σ : St} {S : Sta} {H H' : Hp} {W' : Addr → Option Own} (r : Rel K H σ S) (n : NxW S.W H W' H') (w : RelW K H' W') : Nx σ S H σ ⟨S.ρ, W'⟩ H' ∧ Rel K H' σ ⟨S.ρ, W'⟩ := by
  have nw : ∀ i a, OwnS σ S.ρ i a → ¬ (S.W a ≠ none) := fun i a h z => z (r.dis i a h)
  have tr : ∀ i a, OwnS σ S.ρ i a → H a ≠ none := fun i a h z => by
    obtain ⟨u, e, _⟩ := r.known (.inl ⟨i, h⟩)
    rw [z] at e; cases e
  refine ⟨⟨n.st.mono fun a h => .inr h, n.kn, fun a h => ?_⟩, ⟨r.len, fun i s e => ?_, r.inj, w, fun i a h => ?_⟩⟩
  · rcases h with ⟨i, h⟩ | h
    · exact .inl (.inl ⟨i, h⟩)
    · exact (n.oa a h).imp (fun z => .inr z) id
  · have q := r.slot i s e
    cases s with
    | emp => trivial
    | val d => obtain ⟨v, h1, h2⟩ := q; exact ⟨v, h1, h2.step n.st⟩
    | own o => obtain ⟨a, h1, h2⟩ := q; exact ⟨a, h1, h2.step n.st (nw i a ⟨⟨o, e⟩, h1⟩)⟩
  · show W' a = none
    cases q : W' a with
    | none => rfl
    | some o =>
      rcases n.oa a (by rw [q]; exact fun z => nomatch z) with z | z
      · exact absurd z (nw i a h)
      · exact absurd z (tr i a h)
theorem pm_call (F : FnOk X.prog X.w X.K X.mg X.base (L2.CX X.prog X.w) k f fd ps (spP X.K n φ)) (hr : Room k X.A) (hg : Gl X x) (hm : X.mg x = some (.ref f)) (hk : PySem.W.keepIn X.K (.ref f) = true) (hb : Binds X.K fd ps [])
    (ha : PMA X (e :: es) t) (hdb : (x == ("__debug__" : Str)) = false := by decide) (he : starEach (e :: es) X.env = (false, eval e X.env) :: starEach es X.env := by rfl) (hpl : (backTo pos (starEach es X.env)).any (·.1) = false := by rfl) :
    PM X (.Call (.Name x p) (e :: es) [] pos) (pCall n φ t) := fun W tk => weakE (pe_callS (E := WE W) F hr hg hm hk hb (fun σ => passAt tk σ) (ha W tk) hdb he hpl) fun σ H Q => by
  rintro ⟨S, Q', E', rel, q, up, ux⟩
  refine ⟨S, _, E', rel, q, fun vs ds H1 S1 n1 r1 p1 q1 => ?_, ux⟩
  refine ⟨ds, S1.W, _, _, by rw [p1.length]; exact q1.1, p1, r1.wor, q1.2, fun v d H' W' nw rw' rp q2 => ?_, fun y c dd H' W' nw rw' xr q2 => ?_⟩
  · obtain ⟨nx, r⟩ := r1.after nw rw'
    exact up v d H' _ (n1.trans nx) r rp q2
  · obtain ⟨nx, r⟩ := r1.after nw rw'
    exact ux y c dd H' _ (n1.trans nx) r xr q2
end
end Pl
set_option Elab.async false
set_option linter.all false
set_option maxRecDepth 100000
set_option maxHeartbeats 4000000
/-! Pl, part 4: loops, comprehensions -/
namespace Pl
open PySem PySem.Spec L2
open PyProof.Rows (envOfC)
/-- what is walked: the items as data -/
abbrev PTI := Sta → (List D → Sta → Prop) → PX → Prop
def WalksD (K : PySem.W.Frag) (J : It) (H : Hp) (ds : List D) : Prop := ∃ C : Hp → Prop, C H ∧ (∀ (A : Addr → Prop) H H', Step A H H' → C H → C H') ∧
  ∀ i H, C H → (ds.length ≤ i → J.stop i H) ∧ ∀ d, ds[i]? = some d → J.go i H ∧ ∀ x H', J.yld i H x H' → Same H H' ∧ Rep K H' x d
def lI (X : Cx) (W : WX) (t : PTI) : TI := fun σ H R => ∃ S Q' E', Rel X.K H σ S ∧ t S Q' E' ∧ (∀ J ds H' S', Nx σ S H σ S' H' → Rel X.K H' σ S' → WalksD X.K J H' ds → Q' ds S' → R J H') ∧ UpX X.K σ S H W E'
def PMI (X : Cx) (tg iter : Expr) (t : PTI) : Prop := ∀ W, Takes X W → PI X tg iter (lI X W t)
theorem weakI {X : Cx} {tg iter : Expr} {t t' : TI} (h : PI X tg iter t) (w : ∀ σ H R, t' σ H R → t σ H R) : PI X tg iter t' := ⟨fun pins s σ H R I q => h.run pins s σ H R I (w _ _ _ q)⟩
section
variable {X : Cx} {tg iter : Expr} {e : Expr} {te : PTE} {pos : Pos}
/-- a list or a tuple -/
def iSeq (K : PySem.W.Frag) (tl : TE) : TI := fun σ H R => tl σ H fun x H1 => ∃ a, x = .ref a ∧ (((∃ xs, SqL K H1 a xs) ∧ R (Itl K a) H1) ∨ ((∃ xs, SqT K H1 a xs) ∧ R (Itt K a) H1))
theorem pi_seq {l : Expr} {tl : TE} (hl : PE X l tl) : PI X tg l (iSeq X.K tl) := by
  refine ⟨fun pins s σ H R I h => ?_⟩
  refine thn (hl.run pins s σ H _ I h) fun v s1 ⟨x, H1, I1, r1, q1⟩ => ?_
  obtain ⟨a, e, q⟩ := q1
  subst e
  cases r1
  have e : ∀ b, b ∈ [s1.heap.objs.size] → FpOk X pins H1 b := fun b hb => by
    have e : b = s1.heap.objs.size := by simpa using hb
    subst e
    exact I1.fpOk (Nat.le_refl _) (I1.hok.fresh (Nat.le_refl _))
  rcases q with ⟨⟨xs, hq⟩, q⟩ | ⟨⟨xs, hq⟩, q⟩
  · obtain ⟨its, rv, p, hz⟩ := I1.list hq
    refine wpAny_pyIter_list p.isList ?_
    exact ⟨s1.heap.objs.size, [s1.heap.objs.size], _, _, H1, rfl, I1.kept (t' := s1.toks) fun b o e => Heap.get?_push_of_some _ e, turn_list a _, ⟨_, Heap.get?_push_size _ rfl, rfl, rfl⟩, e, q⟩
  · obtain ⟨its, rv, p, hz⟩ := I1.tuple hq
    refine wpAny_pyIter_tuple (show s1.heap.IsTuple a its.toArray from p) ?_
    exact ⟨s1.heap.objs.size, [s1.heap.objs.size], _, _, H1, rfl, I1.kept (t' := s1.toks) fun b o e => Heap.get?_push_of_some _ e, turn_tuple a _, ⟨_, Heap.get?_push_size _ rfl, rfl, rfl⟩, e, q⟩
theorem walks_list {K : PySem.W.Frag} {H : Hp} {a : Addr} {xs : List V} {ds : List D} (h : FzL K H a xs) (r : RepAll K H xs ds) : WalksD K (Itl K a) H ds := by
  refine ⟨fun H => FzL K H a xs ∧ RepAll K H xs ds, ⟨h, r⟩, fun A H H' s ⟨h, r⟩ => ⟨s.fzl h, r.step s⟩, fun i H ⟨h, r⟩ => ⟨fun hi => ⟨xs, h.sq, by rw [r.length]; exact hi⟩, fun d hd => ?_⟩⟩
  obtain ⟨v, h1, h2⟩ := r.get hd
  refine ⟨⟨xs, v, h.sq, h1⟩, fun x H' y => ?_⟩
  obtain ⟨e, y⟩ := y
  subst e
  have e := (y xs h.sq).symm.trans h1
  cases e
  exact ⟨Same.refl _, h2⟩
theorem walks_tup {K : PySem.W.Frag} {H : Hp} {a : Addr} {xs : List V} {ds : List D} (h : SqT K H a xs) (r : RepAll K H xs ds) : WalksD K (Itt K a) H ds := by
  refine ⟨fun H => SqT K H a xs ∧ RepAll K H xs ds, ⟨h, r⟩, fun A H H' s ⟨h, r⟩ => ⟨s.tup h, r.step s⟩, fun i H ⟨h, r⟩ => ⟨fun hi => ⟨xs, h, by rw [r.length]; exact hi⟩, fun d hd => ?_⟩⟩
  obtain ⟨v, h1, h2⟩ := r.get hd
  refine ⟨⟨xs, v, h, h1⟩, fun x H' y => ?_⟩
  obtain ⟨e, y⟩ := y
  subst e
  have e := (y xs h).symm.trans h1
  cases e
  exact ⟨Same.refl _, h2⟩
theorem walks_range {K : PySem.W.Frag} {H : Hp} {lo : Int} {n : Nat} : WalksD K (Itr lo n) H ((List.range n).map fun (i : Nat) => D.int (lo + i)) := by
  refine ⟨fun _ => True, trivial, fun _ _ _ _ _ => trivial, fun i H _ => ⟨fun hi => (by show n ≤ i; simpa using hi), fun d hd => ?_⟩⟩
  rw [List.getElem?_map] at hd
  by_cases hi : i < n
  · rw [List.getElem?_eq_getElem (by simpa using hi)] at hd
    simp only [List.getElem_range, Option.map_some, Option.some.injEq] at hd
    subst hd
    refine ⟨hi, fun x H' y => ?_⟩
    obtain ⟨e, y⟩ := y
    subst e y
    exact ⟨Same.refl _, .int _⟩
  · rw [List.getElem?_eq_none (by simpa using hi)] at hd; cases hd
def itD (d : D) (Q : List D → Prop) : Prop := match d with
  | .lst xs => Q xs
  | .tup xs => Q xs
  | _ => False
def pIter (t : PTE) : PTI := fun S Q E => t S (fun d S1 => itD d fun xs => Q xs S1) E
theorem pmi_seq (h : PM X e te) : PMI X tg e (pIter te) := fun W tk => weakI (pi_seq (h W tk)) fun σ H R => by
  rintro ⟨S, Q', E', rel, q, up, ux⟩
  refine ⟨S, _, E', rel, q, fun v d H1 S1 n1 r1 p1 q1 => ?_, ux⟩
  cases p1 with
  | lst h r => exact ⟨_, rfl, .inl ⟨⟨_, h.sq⟩, up _ _ _ _ n1 r1 (walks_list h r) q1⟩⟩
  | tup h r => exact ⟨_, rfl, .inr ⟨⟨_, h⟩, up _ _ _ _ n1 r1 (walks_tup h r) q1⟩⟩
  | _ => exact q1.elim
def rangeD (lo : Int) (n : Nat) : List D := (List.range n).map fun (i : Nat) => D.int (lo + i)
def pRng1 (t : PTA) : PTI := fun S Q E => t S (fun ds S1 => ∃ j : Int, ds = [.int j] ∧ (-(2 ^ 62) ≤ j ∧ j < 2 ^ 62) ∧ Q (rangeD 0 j.toNat) S1) E
def pRng2 (t : PTA) : PTI := fun S Q E => t S (fun ds S1 => ∃ i j : Int, ds = [.int i, .int j] ∧ (-(2 ^ 62) ≤ i ∧ i < 2 ^ 62 ∧ -(2 ^ 62) ≤ j ∧ j < 2 ^ 62) ∧ Q (rangeD i (j - i).toNat) S1) E
theorem pmi_range1 {a : Expr} {ta : PTA} {p pos : Pos} (hg : Gl X "range") (hm : X.mg "range" = none) (ha : PMA X [a] ta) (hs : starEach [a] X.env = [(false, eval a X.env)] := by rfl) : PMI X tg (.Call (.Name "range" p) [a] [] pos) (pRng1 ta) := fun W tk => weakI (pi_range1 hg hm (ha W tk) hs) fun σ H R => by
  rintro ⟨S, Q', E', rel, q, up, ux⟩
  refine ⟨S, _, E', rel, q, fun vs ds H1 S1 n1 r1 p1 q1 => ?_, ux⟩
  obtain ⟨j, rfl, ⟨h1, h2⟩, q1⟩ := q1
  cases p1 with
  | cons p pr =>
    cases pr; cases p
    exact ⟨j, rfl, h1, h2, up _ _ _ _ n1 r1 walks_range q1⟩
theorem pmi_range2 {a b : Expr} {ta : PTA} {p pos : Pos} (hg : Gl X "range") (hm : X.mg "range" = none) (ha : PMA X [a, b] ta) (hs : starEach [a, b] X.env = [(false, eval a X.env), (false, eval b X.env)] := by rfl) (hs2 : starEach [b] X.env = [(false, eval b X.env)] := by rfl) :
    PMI X tg (.Call (.Name "range" p) [a, b] [] pos) (pRng2 ta) := fun W tk => weakI (pi_range2 hg hm (ha W tk) hs hs2) fun σ H R => by
  rintro ⟨S, Q', E', rel, q, up, ux⟩
  refine ⟨S, _, E', rel, q, fun vs ds H1 S1 n1 r1 p1 q1 => ?_, ux⟩
  obtain ⟨i, j, rfl, h1, q1⟩ := q1
  cases p1 with
  | cons p pr =>
    cases pr with
    | cons p' pr => cases pr; cases p; cases p'; exact ⟨i, j, rfl, h1, up _ _ _ _ n1 r1 walks_range q1⟩
/-! ### for -/
def forW (g : PTG) (tb : PTS) (P : PEnds) : List D → Sta → Prop
  | [], S => P.nx S
  | d :: r, S => g d S fun S2 => tb { P with nx := forW g tb P r, ct := forW g tb P r, bk := P.nx } S2
def pFor (ti : PTI) (g : PTG) (tb : PTS) : PTS := fun P S => ti S (fun ds S1 => forW g tb P ds S1) P.ex
theorem pms_for {vs : List Nat} {body : List Stmt} {ti : PTI} {g : PTG} {tb : PTS} (hp : PassesOwn (model X.prog X.w) X.A X.env X.xe) (hc : X.calm = true) (hi : PMI X tg iter ti) (hg : PMG X vs tg g) (hb : PMSs X body tb)
    (hs : ∀ x, foldedSetIterable iter X.env x = pure x := by intro _; rfl) : PMS X (.For tg iter body [] pos) (pFor ti g tb) := fun W tk => weakS (ps_for hp hc (hi W tk) hg (hb W tk) hs) fun D σ H => by
  rintro ⟨S, P, rel, q, up⟩
  refine ⟨S, _, _, rel, q, fun J ds H1 S1 n1 r1 wk q1 => ?_, up.ux⟩
  obtain ⟨C, c1, cs, turn⟩ := wk
  have up1 := up.thn n1
  refine ⟨fun i m σ' H' => i + m = ds.length ∧ C H' ∧ ∃ S', Nx σ S1 H1 σ' S' H' ∧ Rel X.K H' σ' S' ∧ forW g tb P (ds.drop i) S', ⟨ds.length, by omega, c1, S1, .refl, r1, q1⟩, fun i m σ' H' h => ?_⟩
  obtain ⟨em, c, S', n, r, w⟩ := h
  obtain ⟨t1, t2⟩ := turn i H' c
  by_cases hi : i < ds.length
  · obtain ⟨go, yl⟩ := t2 _ (List.getElem?_eq_getElem hi)
    rw [List.drop_eq_getElem_cons hi] at w
    refine .inr ⟨go, fun σ2 H2 => C H2 ∧ ∃ S2, Nx σ S1 H1 σ2 S2 H2 ∧ Rel X.K H2 σ2 S2 ∧ forW g tb P (ds.drop (i + 1)) S2, fun σ2 H2 ⟨c2, S2, n2, r2, w2⟩ => ⟨m - 1, by omega, by omega, c2, S2, n2, r2, w2⟩, fun x H2 y => ?_⟩
    obtain ⟨sm, rp⟩ := yl x H2 y
    have c2 := cs (fun _ => False) _ _ (Step.of_same sm) c
    have nn : Nx σ S1 H1 σ' S' H2 := n.trans (.same sm)
    refine ⟨_, S', _, r.same sm, rp, w, fun σ3 H3 S3 _ n3 r3 q3 => ⟨S3, _, r3, q3, ⟨fun σ4 H4 S4 n4 r4 q4 => ⟨?_, S4, nn.trans (n3.trans n4), r4, q4⟩, fun v d σ4 H4 S4 n4 r4 p4 q4 => up1.rt v d σ4 H4 S4 (nn.trans (n3.trans n4)) r4 p4 q4,
      fun σ4 H4 S4 n4 r4 q4 => up1.nx σ4 H4 S4 (nn.trans (n3.trans n4)) r4 q4, fun σ4 H4 S4 n4 r4 q4 => ⟨?_, S4, nn.trans (n3.trans n4), r4, q4⟩, fun x c d σ4 H4 S4 n4 r4 p4 q4 => up1.ex x c d σ4 H4 S4 (nn.trans (n3.trans n4)) r4 p4 q4⟩⟩⟩
    · exact cs _ _ _ (n3.trans n4).st c2
    · exact cs _ _ _ (n3.trans n4).st c2
  · rw [List.drop_eq_nil_of_le (by omega)] at w
    exact .inl ⟨t1 (by omega), up1.nx σ' H' S' n r w⟩
/-! ### while -/
def pWhile (c : PTT) (tb : PTS) : PTS := fun P S => ∃ I : Nat → Sta → Prop, (∃ m, I m S) ∧ ∀ m S, I m S → c S (fun b S1 => if b = true then tb { P with nx := fun S2 => ∃ m', m' < m ∧ I m' S2, ct := fun S2 => ∃ m', m' < m ∧ I m' S2, bk := P.nx } S1 else P.nx S1) P.ex
theorem pms_while {c : Expr} {body : List Stmt} {tc : PTT} {tb : PTS} (hp : PassesOwn (model X.prog X.w) X.A X.env X.xe) (hc : PMT X c tc) (hb : PMSs X body tb) : PMS X (.While c body [] pos) (pWhile tc tb) := fun W tk => weakS (ps_while hp (hc W tk) (hb W tk)) fun D σ H => by
  rintro ⟨S, P, rel, ⟨I, ⟨m0, i0⟩, turn⟩, up⟩
  refine ⟨fun m σ' H' => ∃ S', Nx σ S H σ' S' H' ∧ Rel X.K H' σ' S' ∧ I m S', ⟨m0, S, .refl, rel, i0⟩, fun m σ' H' ⟨S', n, r, i⟩ => ?_⟩
  refine ⟨S', _, _, r, turn m S' i, fun b H1 S1 n1 r1 q1 => ?_, (up.thn n).ux⟩
  cases b with
  | true =>
    have q1 : tb { P with nx := fun S2 => ∃ m', m' < m ∧ I m' S2, ct := fun S2 => ∃ m', m' < m ∧ I m' S2, bk := P.nx } S1 := q1
    have nn := n.trans n1
    refine ⟨fun σ2 H2 => ∃ m', m' < m ∧ ∃ S2, Nx σ S H σ2 S2 H2 ∧ Rel X.K H2 σ2 S2 ∧ I m' S2, fun σ2 H2 h => h, S1, _, r1, q1, ⟨fun σ2 H2 S2 n2 r2 ⟨m', hm, q2⟩ => ⟨m', hm, S2, nn.trans n2, r2, q2⟩, fun v d σ2 H2 S2 n2 r2 p2 q2 => up.rt v d σ2 H2 S2 (nn.trans n2) r2 p2 q2,
      fun σ2 H2 S2 n2 r2 q2 => up.nx σ2 H2 S2 (nn.trans n2) r2 q2, fun σ2 H2 S2 n2 r2 ⟨m', hm, q2⟩ => ⟨m', hm, S2, nn.trans n2, r2, q2⟩, fun x c d σ2 H2 S2 n2 r2 p2 q2 => up.ex x c d σ2 H2 S2 (nn.trans n2) r2 p2 q2⟩⟩
  | false => exact up.nx _ _ _ (n.trans n1) r1 q1
end
end Pl
set_option Elab.async false
set_option linter.all false
set_option maxRecDepth 100000
set_option maxHeartbeats 4000000
/-! Pl, part 5: comprehensions -/
namespace Pl
open PySem PySem.Spec L2
open PyProof.Rows (envOfC)
def wipS (S : Sta) (vs : List Nat) : Sta := ⟨vs.foldr (fun v ρ => ρ.set v .emp) S.ρ, S.W⟩
theorem wipS_len (S : Sta) : ∀ vs : List Nat, (wipS S vs).ρ.length = S.ρ.length
  | [] => rfl
  | v :: vs => by
    show ((wipS S vs).ρ.set v .emp).length = _
    rw [List.length_set, wipS_len S vs]
theorem wipS_get (S : Sta) : ∀ (vs : List Nat) (j : Nat), (wipS S vs).ρ[j]? = if j ∈ vs then S.ρ[j]?.map (fun _ => .emp) else S.ρ[j]?
  | [], j => by simp [wipS]
  | v :: vs, j => by
    show ((wipS S vs).ρ.set v .emp)[j]? = _
    by_cases hj : v = j
    · subst hj
      by_cases hl : v < S.ρ.length
      · rw [List.getElem?_set_self (by rw [wipS_len]; exact hl), if_pos (by simp), List.getElem?_eq_getElem hl]; rfl
      · rw [List.getElem?_eq_none (by rw [List.length_set, wipS_len]; omega), if_pos (by simp), List.getElem?_eq_none (by omega)]; rfl
    · rw [List.getElem?_set_ne hj, wipS_get S vs j]
      have e : (j ∈ v :: vs) ↔ j ∈ vs := by simp [List.mem_cons, Ne.symm hj]
      by_cases hm : j ∈ vs
      · rw [if_pos hm, if_pos (e.mpr hm)]
      · rw [if_neg hm, if_neg (fun z => hm (e.mp z))]
theorem wipe_idem (σ : St) (vs : List Nat) : wipe (wipe σ vs) vs = wipe σ vs := List.ext_getElem? fun j => by
  rw [wipe_get, wipe_get]
  by_cases hj : j ∈ vs
  · rw [if_pos hj, if_pos hj, Option.map_map]; rfl
  · rw [if_neg hj, if_neg hj]
theorem wipS_idem (S : Sta) (vs : List Nat) : wipS (wipS S vs) vs = wipS S vs := by
  have e1 : (wipS (wipS S vs) vs).ρ = (wipS S vs).ρ := List.ext_getElem? fun j => by
    rw [wipS_get, wipS_get]
    by_cases hj : j ∈ vs
    · rw [if_pos hj, if_pos hj, Option.map_map]; rfl
    · rw [if_neg hj, if_neg hj]
  show (⟨(wipS (wipS S vs) vs).ρ, S.W⟩ : Sta) = ⟨(wipS S vs).ρ, S.W⟩
  rw [e1]
section
variable {K : PySem.W.Frag} {H : Hp} {σ τ : St} {S : Sta} {vs : List Nat}
theorem own_wip {i : Nat} {a : Addr} (h : OwnS σ (wipS S vs).ρ i a) : i ∉ vs ∧ OwnS σ S.ρ i a := by
  obtain ⟨⟨o, h1⟩, h2⟩ := h
  rw [wipS_get] at h1
  by_cases hm : i ∈ vs
  · rw [if_pos hm] at h1
    cases q : S.ρ[i]? with
    | none => rw [q] at h1; cases h1
    | some s => rw [q] at h1; cases h1
  · rw [if_neg hm] at h1
    exact ⟨hm, ⟨o, h1⟩, h2⟩
/-- the slots at vs forgotten on both sides: only the others count -/
theorem Rel.wip (r : Rel K H σ S) (e : wipe τ vs = wipe σ vs) : Rel K H τ (wipS S vs) ∧ ∀ a, Oa τ (wipS S vs) a → Oa σ S a := by
  have g : ∀ j : Nat, j ∉ vs → τ[j]? = σ[j]? := fun j hj => by
    have h := congrArg (fun l => l[j]?) e
    simp only [wipe_get, if_neg hj] at h
    exact h
  have bk : ∀ i a, OwnS τ (wipS S vs).ρ i a → OwnS σ S.ρ i a := fun i a h => by
    obtain ⟨hm, h1, h2⟩ := own_wip h
    exact ⟨h1, by rw [← g i hm]; exact h2⟩
  refine ⟨⟨?_, fun i s es => ?_, fun i j a h1 h2 => r.inj i j a (bk _ _ h1) (bk _ _ h2), r.wor, fun i a h => r.dis i a (bk _ _ h)⟩, fun a h => ?_⟩
  · rw [wipS_len, ← r.len]
    have h := congrArg List.length e
    rw [wipe_length, wipe_length] at h
    exact h
  · rw [wipS_get] at es
    by_cases hm : i ∈ vs
    · rw [if_pos hm] at es
      cases q : S.ρ[i]? with
      | none => rw [q] at es; cases es
      | some s' => rw [q] at es; cases es; trivial
    · rw [if_neg hm] at es
      rw [g i hm]
      exact r.slot i s es
  · rcases h with ⟨i, h⟩ | h
    · exact .inl ⟨i, bk _ _ h⟩
    · exact .inr h
end
def noX : PX := fun _ _ => False
def lcW (g : PTG) (tt : PTT) (te : PTE) (vs : List Nat) (Q : PQ) : List D → List D → Sta → Prop
  | [], acc, S => Q (.lst acc) S
  | d :: r, acc, S => g d S fun S2 => tt S2 (fun b S3 => if b = true then te S3 (fun y S4 => acc.length < sizeLine ∧ lcW g tt te vs Q r (acc ++ [y]) (wipS S4 vs)) noX else lcW g tt te vs Q r acc (wipS S3 vs)) noX
def pLc (ti : PTI) (g : PTG) (tt : PTT) (te : PTE) (vs : List Nat) : PTE := fun S Q E => ti S (fun ds S1 => lcW g tt te vs Q ds [] (wipS S1 vs)) E
def PMTs (X : Cx) (ifs : List Expr) (t : PTT) : Prop := ∀ W, Takes X W → PTs X ifs (lT X W t)
def pYes : PTT := fun S Q _ => Q true S
section
variable {X : Cx}
theorem pmts_nil : PMTs X [] pYes := fun W tk => ⟨fun pins s σ H Q I h => pts_nil.run pins s σ H Q I (by
  obtain ⟨S, Q', E', rel, q, up, _⟩ := h
  exact up _ _ _ .refl rel q)⟩
theorem pmts_one {c : Expr} {t : PTT} (h : PMT X c t) : PMTs X [c] t := fun W tk => pts_one (h W tk)
def fz (N : St → Hp → Prop) : St → Hp → Prop := fun σ H => N σ H ∨ ∃ a u, H a = some u ∧ ((∃ xs, u = .lst xs) ∨ ∃ kvs, u = .dK kvs) ∧ ∀ o, N σ (upd H a (.frz o u))
theorem ps_fz {st : Stmt} {t : TS} (h : L2.PS X st t) : L2.PS X st (fun D σ H => t { D with nx := fz D.nx } σ H) := by
  refine ⟨fun pins s σ H D I q => thn (h.run pins s σ H _ I q) fun f s' z => ?_⟩
  cases f with
  | next =>
    obtain ⟨σ', H', I', q | ⟨a, u, e, m, q⟩⟩ := z
    · exact ⟨σ', H', I', q⟩
    · obtain ⟨o, J⟩ := Inv.freeze I' e m
      exact ⟨_, _, J, q o⟩
  | brk => exact z
  | cont => exact z
  | ret u => exact z
variable {elt tg iter : Expr} {ifs : List Expr} {scope : Scope} {own : List (Str × Nat)} {pos : Pos} {ti : PTI} {g : PTG} {tt : PTT} {te : PTE}
theorem lc_core' {σ : St} {H : Hp} {S : Sta} {Q' : PQ} {E' : PX} {W : WX} {N : V → Hp → Prop} {vs : List Nat} {ta : TT} {tb : TE}
    (ea : ta = lT X (fun _ _ _ _ => False) tt) (eb : tb = lE X (fun _ _ _ _ => False) te)
    (rel : Rel X.K H σ S) (q : pLc ti g tt te vs S Q' E') (ux : UpX X.K σ S H W E')
    (fin : ∀ a acc o H' S', Nx σ S H σ S' (upd H' a (.frz o (.lst acc))) → Rel X.K (upd H' a (.frz o (.lst acc))) σ S' → H' a = some (.lst acc) → ∀ ds, Rep X.K (upd H' a (.frz o (.lst acc))) (.ref a) (.lst ds) → Q' (.lst ds) S' → N (.ref a) (upd H' a (.frz o (.lst acc)))) :
    tLc (lI X W ti) (lG X vs g) ta tb vs σ H (frz N) := by
  subst ea eb
  refine ⟨S, _, E', rel, q, fun J ds H1 S1 n1 r1 wk q1 => ?_, ux⟩
  intro Da hD
  obtain ⟨C, c1, cs, turn⟩ := wk
  have nD : ¬ Oa σ S1 Da := fun z => by
    obtain ⟨u, e, _⟩ := r1.known z
    rw [hD] at e; cases e
  have sm : Same H1 (upd H1 Da (.lst [])) := same_new hD
  obtain ⟨rw_, ow⟩ := (r1.same sm).wip (τ := wipe σ vs) (vs := vs) (wipe_idem σ vs)
  have upD : ∀ {A : Addr → Prop} {H' : Hp} {u : HO}, A Da → ¬ (∃ w, H' Da = some w ∧ Perm w) → Step A H' (upd H' Da u) := fun {A H' u} hA hp b w e z => by
    by_cases hb : b = Da
    · subst hb
      rcases z with z | z
      · exact absurd ⟨w, e, z⟩ hp
      · exact absurd hA z
    · rw [upd_ne hb]; exact e
  refine ⟨fun i m H' => i + m = ds.length ∧ C H' ∧ ∃ S' acc accD, Step (Oa σ S1) H1 H' ∧ (∀ b, H' b = none → H1 b = none) ∧ (∀ a, Oa (wipe σ vs) S' a → Oa σ S1 a ∨ (H1 a = none ∧ a ≠ Da)) ∧ Rel X.K H' (wipe σ vs) S' ∧ H' Da = some (.lst acc) ∧ RepAll X.K H' acc accD ∧ S' = wipS S' vs ∧ lcW g tt te vs Q' (ds.drop i) accD S',
    ⟨ds.length, by omega, cs (fun _ => False) _ _ (Step.of_same sm) c1, _, [], [], Step.of_same sm, same_kn sm, fun a h => .inl (ow a h), rw_, upd_same, .nil, ?_, q1⟩, fun i m H' h => ?_⟩
  · exact (wipS_idem S1 vs).symm
  obtain ⟨em, c, S', acc, accD, st, kn, oa, r, hacc, racc, ew, w⟩ := h
  have nD' : ¬ Oa (wipe σ vs) S' Da := fun z => by
    rcases oa Da z with z | ⟨_, z⟩
    · exact nD z
    · exact z rfl
  obtain ⟨t1, t2⟩ := turn i H' c
  by_cases hi : i < ds.length
  · obtain ⟨go, yl⟩ := t2 _ (List.getElem?_eq_getElem hi)
    rw [List.drop_eq_getElem_cons hi] at w
    refine .inr ⟨go, fun H2 => C H2 ∧ ∃ S2 acc2 accD2, Step (Oa σ S1) H1 H2 ∧ (∀ b, H2 b = none → H1 b = none) ∧ (∀ a, Oa (wipe σ vs) S2 a → Oa σ S1 a ∨ (H1 a = none ∧ a ≠ Da)) ∧ Rel X.K H2 (wipe σ vs) S2 ∧ H2 Da = some (.lst acc2) ∧ RepAll X.K H2 acc2 accD2 ∧ S2 = wipS S2 vs ∧ lcW g tt te vs Q' (ds.drop (i + 1)) accD2 S2,
      fun H2 ⟨c2, h2⟩ => ⟨m - 1, by omega, by omega, c2, h2⟩, fun x H2 y => ?_⟩
    obtain ⟨sm2, rp⟩ := yl x H2 y
    -- the same facts at the item's heap, and behind any step of ours
    have after : ∀ {σ3 H3 S3}, wipe σ3 vs = wipe σ vs → Nx (wipe σ vs) S' H2 σ3 S3 H3 → Rel X.K H3 σ3 S3 → C H3 ∧ Step (Oa σ S1) H1 H3 ∧ (∀ b, H3 b = none → H1 b = none) ∧ (∀ a, Oa (wipe σ vs) (wipS S3 vs) a → Oa σ S1 a ∨ (H1 a = none ∧ a ≠ Da)) ∧
        Rel X.K H3 (wipe σ vs) (wipS S3 vs) ∧ H3 Da = some (.lst acc) ∧ RepAll X.K H3 acc accD ∧ ¬ Oa (wipe σ vs) (wipS S3 vs) Da := fun {σ3 H3 S3} e3 n3 r3 => by
      have h2D : H2 Da = some (.lst acc) := sm2 _ _ hacc
      have hww : wipe (wipe σ vs) vs = wipe σ3 vs := by rw [e3, wipe_idem]
      obtain ⟨r3', o3⟩ := r3.wip (τ := wipe σ vs) (vs := vs) hww
      have oo : ∀ a, Oa (wipe σ vs) (wipS S3 vs) a → Oa σ S1 a ∨ (H1 a = none ∧ a ≠ Da) := fun a h => by
        rcases n3.oa a (o3 a h) with z | z
        · exact oa a z
        · refine .inr ⟨kn a ?_, fun e => ?_⟩
          · cases q : H' a with
            | none => rfl
            | some o => rw [sm2 a o q] at z; cases z
          · subst e; rw [h2D] at z; cases z
      refine ⟨cs _ _ _ n3.st (cs (fun _ => False) _ _ (Step.of_same sm2) c), fun b o e z => ?_, fun b h => kn b (same_kn sm2 b (n3.kn b h)), oo, r3', n3.st _ _ h2D (.inr nD'), (racc.step (Step.of_same (A := fun _ => False) sm2)).nx n3, fun z => ?_⟩
      · have e1 := sm2 _ _ (st b o e z)
        refine n3.st b o e1 (z.imp id fun n y => ?_)
        rcases oa b y with y | ⟨y, _⟩
        · exact n y
        · rw [e] at y; cases y
      · rcases oo Da z with z | ⟨_, z⟩
        · exact nD z
        · exact z rfl
    refine ⟨_, S', _, r.same sm2, rp, w, fun σ3 H3 S3 e3 n3 r3 q3 => ?_⟩
    rw [wipe_idem] at e3
    refine ⟨e3, ?_⟩
    refine ⟨S3, _, noX, r3, q3, fun b H4 S4 n4 r4 q4 => ?_, fun _ _ _ _ _ _ _ _ z => z.elim⟩
    cases b with
    | true =>
      refine ⟨S4, _, noX, r4, q4, fun v d H5 S5 n5 r5 p5 q5 => ?_, fun _ _ _ _ _ _ _ _ z => z.elim⟩
      obtain ⟨c5, st5, kn5, oa5, r5', hD5, ra5, nD5⟩ := after e3 ((n3.trans n4).trans n5) r5
      have sD : Step (fun b => b = Da) H5 (upd H5 Da (.lst (acc ++ [v]))) := upD rfl (by
        rintro ⟨w, e, p⟩
        rw [hD5] at e; cases e; exact p)
      refine ⟨acc, hD5, by rw [ra5.length]; exact q5.1, cs _ _ _ sD c5, wipS S5 vs, acc ++ [v], accD ++ [d], fun b o e z => ?_, fun b h => ?_, oa5, r5'.step sD fun a h e => nD5 (by rw [← show a = Da from e]; exact h), upd_same, (ra5.step sD).append (.cons (p5.step sD) .nil), (wipS_idem S5 vs).symm, q5.2⟩
      · rw [upd_ne (ne_of_none e hD)]; exact st5 b o e z
      · by_cases hb : b = Da
        · subst hb; exact hD
        · rw [upd_ne hb] at h; exact kn5 b h
    | false =>
      obtain ⟨c5, st5, kn5, oa5, r5', hD5, ra5, nD5⟩ := after e3 (n3.trans n4) r4
      exact ⟨c5, _, acc, accD, st5, kn5, oa5, r5', hD5, ra5, (wipS_idem S4 vs).symm, q4⟩
  · rw [List.drop_eq_nil_of_le (by omega)] at w
    refine .inl ⟨t1 (by omega), .inr ⟨Da, _, rfl, hacc, .inl ⟨_, rfl⟩, fun o => ?_⟩⟩
    obtain ⟨rb, ob⟩ := r.wip (τ := σ) (vs := vs) (wipe_idem σ vs).symm
    rw [← ew] at rb ob
    have sD : Step (fun b => b = Da) H' (upd H' Da (.frz o (.lst acc))) := upD rfl (by
      rintro ⟨w, e, p⟩
      rw [hacc] at e; cases e; exact p)
    have rr : Rel X.K (upd H' Da (.frz o (.lst acc))) σ S' := rb.step sD fun a h e => nD' (by rw [← show a = Da from e]; exact ob a h)
    refine fin Da acc o H' S' (n1.trans ⟨fun b u e z => ?_, fun b h => ?_, fun a h => ?_⟩) rr hacc accD (.lst (.inl ⟨o, upd_same⟩) (racc.step sD)) w
    · rw [upd_ne (ne_of_none e hD)]; exact st b u e z
    · by_cases hb : b = Da
      · subst hb; exact hD
      · rw [upd_ne hb] at h; exact kn b h
    · exact (oa a (ob a h)).imp id fun z => z.1
/-- [elt for tg in iter if ..] -/
theorem pm_lc (hc : X.calm = true) (hN : X.N.Nodup) (hi : PMI X tg iter ti) (ok : BlkOk X.N X.env.scope scope own)
    (hg : ∀ (s : Shared) (H : Hp) (C : Addr) (cl : List (Str × Addr)) (fp : List Addr), PMG (X.blk s H scope (compEnvC scope cl C X.env) fp) (own.map (·.2)) tg g)
    (ht : ∀ (s : Shared) (H : Hp) (C : Addr) (cl : List (Str × Addr)) (fp : List Addr), PMTs (X.blk s H scope (compEnvC scope cl C X.env) fp) ifs tt)
    (he : ∀ (s : Shared) (H : Hp) (C : Addr) (cl : List (Str × Addr)) (fp : List Addr), PM (X.blk s H scope (compEnvC scope cl C X.env) fp) elt te) (hs : ∀ x, foldedSetIterable iter X.env x = pure x := by intro _; rfl) :
    PM X (.ListComp elt [⟨tg, iter, ifs, 0⟩] scope pos) (pLc ti g tt te (own.map (·.2))) := fun W tk => weakE (pe_frz (pe_lc (g := lG X (List.map (fun p : Str × Nat => p.2) own) g) (tt := lT X (fun _ _ _ _ => False) tt) (te := lE X (fun _ _ _ _ => False) te) hc hN (hi W tk) ok hg (fun s H C cl fp => ht s H C cl fp (fun _ _ _ _ => False) takes0) (fun s H C cl fp => he s H C cl fp (fun _ _ _ _ => False) takes0) hs)) fun σ H Q => by
  rintro ⟨S, Q', E', rel, q, up, ux⟩
  exact lc_core' rfl rfl rel q ux fun a acc o H' S' n r _ ds rp q' => up _ _ _ _ n r rp q'
/-- y = [..] on one line -/
theorem pms_setLc {i : Nat} {y : Str} {py spos : Pos} (hc : X.calm = true) (hN : X.N.Nodup) (hy : X.N[i]? = some y) (hyl : X.env.scope.names.lookup y = some .local)
    (hsw : swapsWith (.ListComp elt [⟨tg, iter, ifs, 0⟩] scope pos) (some (.Name y py)) spos.line X.env = pure true) (hi : PMI X tg iter ti) (ok : BlkOk X.N X.env.scope scope own)
    (hg : ∀ (s : Shared) (H : Hp) (C : Addr) (cl : List (Str × Addr)) (fp : List Addr), PMG (X.blk s H scope (compEnvC scope cl C X.env) fp) (own.map (·.2)) tg g)
    (ht : ∀ (s : Shared) (H : Hp) (C : Addr) (cl : List (Str × Addr)) (fp : List Addr), PMTs (X.blk s H scope (compEnvC scope cl C X.env) fp) ifs tt)
    (he : ∀ (s : Shared) (H : Hp) (C : Addr) (cl : List (Str × Addr)) (fp : List Addr), PM (X.blk s H scope (compEnvC scope cl C X.env) fp) elt te) (hs : ∀ x, foldedSetIterable iter X.env x = pure x := by intro _; rfl) :
    PMS X (.Assign [.Name y py] (.ListComp elt [⟨tg, iter, ifs, 0⟩] scope pos) spos) (pSet i (pLc ti g tt te (own.map (·.2)))) := fun W tk =>
  weakS (ps_fz (ps_setLc (i := i) (g := lG X (List.map (fun p : Str × Nat => p.2) own) g) (tt := lT X (fun _ _ _ _ => False) tt) (te := lE X (fun _ _ _ _ => False) te) hc hN hy hyl hsw (hi W tk) ok hg (fun s H C cl fp => ht s H C cl fp (fun _ _ _ _ => False) takes0) (fun s H C cl fp => he s H C cl fp (fun _ _ _ _ => False) takes0) hs)) fun D σ H => by
  rintro ⟨S, P, rel, q, up⟩
  show tLc (lI X W ti) (lG X (List.map (fun p : Str × Nat => p.2) own) g) (lT X (fun _ _ _ _ => False) tt) (lE X (fun _ _ _ _ => False) te) (own.map (·.2)) σ H (fun x H1 => fz D.nx (σ.set i (some x)) H1)
  have h := lc_core' (N := fun x H1 => D.nx (σ.set i (some x)) H1) (W := W) rfl rfl rel q up.ux fun a acc o H' S' n r _ ds rp q' => by
    obtain ⟨nx, r'⟩ := r.put (i := i) rp
    exact up.nx _ _ _ (n.trans nx) r' q'
  obtain ⟨S0, Q0, E0, h1, h2, h3, h4⟩ := h
  refine ⟨S0, Q0, E0, h1, h2, fun J ds H' S' n r wk q => ?_, h4⟩
  have h5 := h3 J ds H' S' n r wk q
  intro Da hD
  obtain ⟨W1, h6, h7⟩ := h5 Da hD
  refine ⟨W1, h6, fun i m H w => (h7 i m H w).imp (fun ⟨a, b⟩ => ⟨a, ?_⟩) id⟩
  rcases b with b | ⟨c, u, e1, e2, e3, e4⟩
  · exact .inl b
  · cases e1
    exact .inr ⟨_, u, e2, e3, e4⟩
end
end Pl
set_option Elab.async false
set_option linter.all false
set_option maxRecDepth 100000
set_option maxHeartbeats 4000000
/-! Pl, part 6: operators and built-ins over data -/
namespace Pl
open PySem PySem.Spec L2
open PyProof.Rows (envOfC)
/-! ### == of data -/
mutual
def D.py : D → PyData
  | .non => .none
  | .bl b => .bool b
  | .int i => .int i
  | .str x => .str x
  | .tup xs => .tuple (D.pys xs)
  | .lst xs => .list (D.pys xs)
  | .dct _ _ => .none
  | .adr _ => .none
  | .ty _ => .none
def D.pys : List D → List PyData
  | [] => []
  | x :: r => x.py :: D.pys r
end
mutual
/-- built of None, bools, numbers, texts, tuples, lists -/
def D.plain : D → Bool
  | .non => true
  | .bl _ => true
  | .int _ => true
  | .str x => PyData.strOk x
  | .tup xs => D.plains xs
  | .lst xs => D.plains xs
  | .dct _ _ => false
  | .adr _ => false
  | .ty _ => false
def D.plains : List D → Bool
  | [] => true
  | x :: r => x.plain && D.plains r
end
mutual
def D.dep : D → Nat
  | .tup xs => D.deps xs + 1
  | .lst xs => D.deps xs + 1
  | .non => 0
  | .bl _ => 0
  | .int _ => 0
  | .str _ => 0
  | .dct _ _ => 0
  | .adr _ => 0
  | .ty _ => 0
def D.deps : List D → Nat
  | [] => 0
  | x :: r => max x.dep (D.deps r)
end
/-- what == can be asked of -/
def D.good (d : D) : Bool := d.plain && decide (d.dep ≤ 60)
def eqD (d e : D) : Bool := PyData.eqv d.py e.py
mutual
theorem py_lay : ∀ d : D, d.plain = true → d.py.canLay0 = true
  | .non, _ => by simp [D.py, PyData.canLay0]
  | .bl b, _ => by simp [D.py, PyData.canLay0]
  | .int i, _ => by simp [D.py, PyData.canLay0]
  | .str x, h => by simpa [D.py, PyData.canLay0, D.plain] using h
  | .tup xs, h => by
    simp only [D.py, PyData.canLay0]
    exact pys_lay xs (by simpa [D.plain] using h)
  | .lst xs, h => by
    simp only [D.py, PyData.canLay0]
    exact pys_lay xs (by simpa [D.plain] using h)
  | .dct _ _, h => by simp [D.plain] at h
  | .adr _, h => by simp [D.plain] at h
  | .ty _, h => by simp [D.plain] at h
theorem pys_lay : ∀ ds : List D, D.plains ds = true → PyData.canLayAll0 (D.pys ds) = true
  | [], _ => by simp [D.pys, PyData.canLayAll0]
  | d :: r, h => by
    simp only [D.plains, Bool.and_eq_true] at h
    simp only [D.pys, PyData.canLayAll0, Bool.and_eq_true]
    exact ⟨py_lay d h.1, pys_lay r h.2⟩
end
mutual
theorem py_dep : ∀ d : D, d.py.depth ≤ d.dep
  | .non => by simp [D.py, PyData.depth]
  | .bl b => by simp [D.py, PyData.depth]
  | .int i => by simp [D.py, PyData.depth]
  | .str x => by simp [D.py, PyData.depth]
  | .tup xs => by
    simp only [D.py, PyData.depth, D.dep]
    exact Nat.succ_le_succ (pys_dep xs)
  | .lst xs => by
    simp only [D.py, PyData.depth, D.dep]
    exact Nat.succ_le_succ (pys_dep xs)
  | .dct _ _ => by simp [D.py, PyData.depth]
  | .adr _ => by simp [D.py, PyData.depth]
  | .ty _ => by simp [D.py, PyData.depth]
theorem pys_dep : ∀ ds : List D, PyData.depthAll (D.pys ds) ≤ D.deps ds
  | [] => by simp [D.pys, PyData.depthAll]
  | d :: r => by
    simp only [D.pys, PyData.depthAll, D.deps]
    have h1 := py_dep d
    have h2 := pys_dep r
    omega
end
theorem D.pys_map (xs : List D) : D.pys xs = xs.map D.py := by
  induction xs with
  | nil => rfl
  | cons x r ih => simp only [D.pys, List.map_cons, ih]
theorem good_shaped {d : D} (h : d.good = true) : SeqAt.shaped d.py = true := by
  simp only [D.good, Bool.and_eq_true, decide_eq_true_eq] at h
  simp only [SeqAt.shaped, Bool.and_eq_true, decide_eq_true_eq]
  exact ⟨py_lay d h.1, Nat.le_trans (py_dep d) (by omega)⟩
section
variable {K : PySem.W.Frag} {H : Hp}
mutual
theorem Rep.dp : ∀ (d : D) {v : V}, d.plain = true → Rep K H v d → Dp K H v d.py
  | .non, _, _, h => by cases h; simp only [D.py]; exact .non
  | .bl b, _, _, h => by cases h; simp only [D.py]; exact .bl b
  | .int i, _, _, h => by cases h; simp only [D.py]; exact .int i
  | .str x, _, _, h => by cases h; simp only [D.py]; exact .str x
  | .tup xs, _, p, h => by
    cases h with
    | tup hs ha => simp only [D.py]; exact .tup hs (RepAll.dp xs (by simpa [D.plain] using p) ha)
  | .lst xs, _, p, h => by
    cases h with
    | lst hs ha => simp only [D.py]; exact .lst hs.sq (RepAll.dp xs (by simpa [D.plain] using p) ha)
  | .dct _ _, _, p, _ => by simp [D.plain] at p
  | .adr _, _, p, _ => by simp [D.plain] at p
  | .ty _, _, p, _ => by simp [D.plain] at p
theorem RepAll.dp : ∀ (ds : List D) {vs : List V}, D.plains ds = true → RepAll K H vs ds → DpAll K H vs (D.pys ds)
  | [], _, _, h => by cases h; exact .nil
  | d :: r, _, p, h => by
    simp only [D.plains, Bool.and_eq_true] at p
    cases h with
    | cons h1 h2 => exact .cons (Rep.dp d p.1 h1) (RepAll.dp r p.2 h2)
end
end
theorem good_plain {d : D} (h : d.good = true) : d.plain = true := by
  simp only [D.good, Bool.and_eq_true] at h; exact h.1
section
variable {X : Cx}
theorem OpR_or {f : Value → Value → Sem Value} {r r' : R2} (h : OpR X f r) (h' : OpR X f r') : OpR X f (fun x y H Q => r x y H Q ∨ r' x y H Q) := by
  intro pins s σ H x y v u Q I rx ry q
  rcases q with q | q
  · exact h pins s σ H x y v u Q I rx ry q
  · exact h' pins s σ H x y v u Q I rx ry q
theorem OpR_frz {f : Value → Value → Sem Value} {r : R2} (h : OpR X f r) : OpR X f (fun x y H Q => r x y H (frz Q)) := fun pins s σ H x y v u Q I rx ry q => thn (h pins s σ H x y v u _ I rx ry q) fun _ _ z => ep_frz z
theorem CallR_frz {f : Value} {r : List V → Hp → VK → Prop} (h : CallR X f r) : CallR X f (fun xs H Q => r xs H (frz Q)) := fun pins s σ H x v Q I rx q => thn (h pins s σ H x v _ I rx q) fun _ _ z => ep_frz z
theorem MtR_frz {id : String} {r : V → List V → Hp → VK → Prop} (h : MtR X id r) : MtR X id (fun x xs H Q => r x xs H (frz Q)) := fun pins s σ H x xs v us Q I rx rs q => thn (h pins s σ H x xs v us _ I rx rs q) fun _ _ z => ep_frz z
theorem SlR_frz {r : V → Option Int → Option Int → Hp → VK → Prop} (h : SlR X r) : SlR X (fun x lo hi H Q => r x lo hi H (frz Q)) := fun pins s σ H x v vl vu lo hi sl Q I rx hs pl pu q => by
  obtain ⟨T, id, h1, h2, h3⟩ := h pins s σ H x v vl vu lo hi sl _ I rx hs pl pu q
  exact ⟨T, id, h1, h2, thn h3 fun _ _ z => ep_frz z⟩
/-- a new list at p, frozen -/
theorem Fin.newL {K : PySem.W.Frag} {H : Hp} {Q : VK} {Q' : D → Prop} {p : Addr} {xs : List V} {ds : List D} (f : Fin K H Q Q') (hp : H p = none) (r : RepAll K H xs ds) (q : Q' (.lst ds)) : frz Q (.ref p) (upd H p (.lst xs)) := by
  refine .inr ⟨p, _, rfl, upd_same, .inl ⟨_, rfl⟩, fun o => ?_⟩
  have s : Same H (upd (upd H p (.lst xs)) p (.frz o (.lst xs))) := same_frz hp
  exact f _ _ _ s (.lst (.inl ⟨o, upd_same⟩) (r.step (A := fun _ => False) (Step.of_same s))) q
theorem Fin.newT {K : PySem.W.Frag} {H : Hp} {Q : VK} {Q' : D → Prop} {p : Addr} {xs : List V} {ds : List D} (f : Fin K H Q Q') (hp : H p = none) (r : RepAll K H xs ds) (q : Q' (.tup ds)) : Q (.ref p) (upd H p (.tup xs)) := by
  have s : Same H (upd H p (.tup xs)) := same_new hp
  exact f _ _ _ s (.tup (.of upd_same) (r.step (A := fun _ => False) (Step.of_same s))) q
theorem Fin.at {K : PySem.W.Frag} {H : Hp} {Q : VK} {Q' : D → Prop} {v : V} {d : D} (f : Fin K H Q Q') (r : Rep K H v d) (q : Q' d) : Q v H := f _ _ _ (Same.refl _) r q
/-! ### arithmetic -/
def oAdd : Op2 := fun x y Q => match x, y with
  | .int i, .int j => Q (.int (i + j))
  | .str x, .str y => x.length + y.length ≤ sizeLine ∧ Q (.str (x ++ y))
  | .tup xs, .tup ys => xs.length + ys.length ≤ sizeLine ∧ Q (.tup (xs ++ ys))
  | .lst xs, .lst ys => xs.length + ys.length ≤ sizeLine ∧ Q (.lst (xs ++ ys))
  | _, _ => False
/-- list + list, lists that are read -/
def rCatL (K : PySem.W.Frag) : R2 := fun x y H Q => ∃ l b xs zs, x = .ref l ∧ y = .ref b ∧ SqL K H l xs ∧ SqL K H b zs ∧ xs.length + zs.length ≤ sizeLine ∧ ∀ p, H p = none → Q (.ref p) (upd H p (.lst (xs ++ zs)))
theorem op_catL : OpR X (binaryOp .Add) (rCatL X.K) := by
  intro pins s σ H x y v u Q I rx ry h
  obtain ⟨l, b, xs, zs, rfl, rfl, hl, hb, hz, q⟩ := h
  cases rx
  cases ry
  obtain ⟨its, r1, pl, _⟩ := I.list hl
  obtain ⟨its2, r2, pb, _⟩ := I.list hb
  obtain ⟨⟨cls, dd, data, sl⟩, n, ho, hc, _, hd⟩ := pl
  obtain ⟨⟨cls2, dd2, data2, sl2⟩, n2, ho2, hc2, _, hd2⟩ := pb
  simp only at hc hd hc2 hd2
  subst hc hd hc2 hd2
  have e : its.toArray ++ its2.toArray = (its ++ its2).toArray := by simp
  refine concat_meets ⟨_, ho, rfl⟩ ⟨_, ho2, rfl⟩ noFill_list_add seq_list_add PySem.F.slot_list_add PySem.F.entry_list_add (PySem.F.args_list_add_2 _ _) (PyProof.Rows.list_addW l b its.toArray its2.toArray n n2 dd dd2 sl sl2 (by rw [List.size_toArray, List.size_toArray, ← r1.length, ← r2.length]; exact hz)) ⟨ho, ho2, ?_⟩
  rw [e]
  exact ⟨.ref _, _, I.laid (t' := s.toks) (o := .lst (xs ++ zs)) (fun b ob q => Heap.get?_push_of_some _ q) (Nat.le_refl _) ⟨by rw [List.length_append]; exact hz, _, 0, r1.append r2, Heap.get?_push_size _ rfl⟩, rfl, q _ (I.hok.fresh (Nat.le_refl _))⟩
theorem od_add : OpD X (binaryOp .Add) oAdd := by
  refine ⟨_, OpR_or op_add (OpR_or op_add_str (OpR_or op_catA (OpR_frz op_catL))), fun H x y d e Q Q' rx ry o f => ?_⟩
  unfold oAdd at o
  split at o
  · cases rx; cases ry; exact .inl ⟨_, _, rfl, rfl, f.at (.int _) o⟩
  · cases rx; cases ry; exact .inr (.inl ⟨_, _, rfl, rfl, o.1, f.at (.str _) o.2⟩)
  · rename_i xs ys
    cases rx with
    | tup h1 r1 =>
    cases ry with
    | tup h2 r2 =>
    rename_i a vs b ws
    refine .inr (.inr (.inl ⟨a, b, vs, ws, rfl, rfl, h1, h2, by rw [r1.length, r2.length]; exact o.1, fun e => ?_, fun _ e => ?_, fun _ _ p hp => ?_⟩))
    · subst e; cases r1; exact f.at (.tup h2 r2) o.2
    · subst e; cases r2; rw [List.append_nil] at o; exact f.at (.tup h1 r1) o.2
    · exact f.newT hp (r1.append r2) o.2
  · cases rx with
    | lst h1 r1 =>
    cases ry with
    | lst h2 r2 => exact .inr (.inr (.inr ⟨_, _, _, _, rfl, rfl, h1.sq, h2.sq, by rw [r1.length, r2.length]; exact o.1, fun p hp => f.newL hp (r1.append r2) o.2⟩))
  · exact o.elim
def oInt (C : Int → Int → Prop) (g : Int → Int → Int) : Op2 := fun x y Q => match x, y with
  | .int i, .int j => C i j ∧ Q (.int (g i j))
  | _, _ => False
def oCmp (g : Int → Int → Bool) : Op2 := fun x y Q => match x, y with
  | .int i, .int j => Q (.bl (g i j))
  | _, _ => False
theorem od_int {f : Value → Value → Sem Value} {C : Int → Int → Prop} {g : Int → Int → Int} (h : OpR X f (rI C fun i j => .int (g i j))) : OpD X f (oInt C g) := by
  refine ⟨_, h, fun H x y d e Q Q' rx ry o f => ?_⟩
  unfold oInt at o
  split at o
  · cases rx; cases ry; exact ⟨_, _, rfl, rfl, o.1, f.at (.int _) o.2⟩
  · exact o.elim
theorem od_int0 {f : Value → Value → Sem Value} {g : Int → Int → Int} (h : OpR X f (rI0 fun i j => .int (g i j))) : OpD X f (oInt (fun _ _ => True) g) := by
  refine ⟨_, h, fun H x y d e Q Q' rx ry o f => ?_⟩
  unfold oInt at o
  split at o
  · cases rx; cases ry; exact ⟨_, _, rfl, rfl, f.at (.int _) o.2⟩
  · exact o.elim
theorem od_cmp {f : Value → Value → Sem Value} {g : Int → Int → Bool} (h : OpR X f (rI0 fun i j => .bl (g i j))) : OpD X f (oCmp g) := by
  refine ⟨_, h, fun H x y d e Q Q' rx ry o f => ?_⟩
  unfold oCmp at o
  split at o
  · cases rx; cases ry; exact ⟨_, _, rfl, rfl, f.at (.bl _) o⟩
  · exact o.elim
theorem od_sub : OpD X (binaryOp .Sub) (oInt (fun _ _ => True) fun i j => i - j) := od_int0 op_sub
theorem od_pow : OpD X (binaryOp .Pow) (oInt CPow fun i j => i ^ j.toNat) := od_int op_pow
def CDv (_ j : Int) : Prop := 0 < j ∧ j < 2 ^ 200
theorem CDv.w {i j : Int} (h : CDv i j) : CDivW i j := wide_div (b := 200) h.1 (by have := h.1; have := h.2; omega) (by decide) (by decide)
theorem op_fdivV : OpR X (binaryOp .FloorDiv) (rI CDv fun i j => .int (i / j)) := fun pins s σ H x y v u Q I rx ry h => by
  obtain ⟨i, j, e1, e2, hc, q⟩ := h
  exact op_fdivW pins s σ H x y v u Q I rx ry ⟨i, j, e1, e2, hc.w, q⟩
theorem od_fdiv : OpD X (binaryOp .FloorDiv) (oInt CDv fun i j => i / j) := od_int op_fdivV
theorem od_mod : OpD X (binaryOp .Mod) (oInt (fun _ j => 0 < j) fun i j => i % j) := od_int op_mod
/-- a product; a list, a tuple times an int: elsewhere -/
theorem od_mul : OpD X (binaryOp .Mult) (oInt CMul fun i j => i * j) := od_int op_mul
theorem od_lt : OpD X (compareOp .Lt) (oCmp fun i j => decide (i < j)) := od_cmp op_lt
theorem od_le : OpD X (compareOp .LtE) (oCmp fun i j => decide (i ≤ j)) := od_cmp op_le
theorem od_gt : OpD X (compareOp .Gt) (oCmp fun i j => decide (j < i)) := od_cmp op_gt
theorem od_ge : OpD X (compareOp .GtE) (oCmp fun i j => decide (j ≤ i)) := od_cmp op_ge
def oNeg : D → (D → Prop) → Prop := fun x Q => match x with
  | .int i => Q (.int (-i))
  | _ => False
theorem ud_neg : UnD X (unaryOp .USub) oNeg := by
  refine ⟨_, un_neg, fun H x d Q Q' rx o f => ?_⟩
  unfold oNeg at o
  split at o
  · cases rx; exact ⟨_, rfl, f.at (.int _) o⟩
  · exact o.elim
/-! ### ==, in, is None -/
def oEq : Op2 := fun x y Q => x.good = true ∧ y.good = true ∧ Q (.bl (eqD x y))
def oNe : Op2 := fun x y Q => x.good = true ∧ y.good = true ∧ Q (.bl (!eqD x y))
theorem od_eq (hu : X.A.units + 64 < cLine) : OpD X (compareOp .Eq) oEq := ⟨_, op_eqD hu, fun H x y d e Q Q' rx ry ⟨g1, g2, o⟩ f =>
  ⟨d.py, e.py, Rep.dp d (good_plain g1) rx, Rep.dp e (good_plain g2) ry, good_shaped g1, good_shaped g2, f.at (.bl _) o⟩⟩
theorem od_ne (hu : X.A.units + 64 < cLine) : OpD X (compareOp .NotEq) oNe := ⟨_, op_neD hu, fun H x y d e Q Q' rx ry ⟨g1, g2, o⟩ f =>
  ⟨d.py, e.py, Rep.dp d (good_plain g1) rx, Rep.dp e (good_plain g2) ry, good_shaped g1, good_shaped g2, f.at (.bl _) o⟩⟩
def rInT (K : PySem.W.Frag) (neg : Bool) : R2 := fun x y H Q => ∃ d ds, Dp K H x d ∧ Dp K H y (.tuple ds) ∧ SeqAt.shaped d = true ∧ SeqAt.shaped (.tuple ds) = true ∧ Q (.bl (if neg then !(ds.any fun z => PyData.eqv z d) else ds.any fun z => PyData.eqv z d)) H
theorem room_in_t {A : Around} {d : PyData} {ds : List PyData} (h : SeqAt.shaped d = true) (hu : A.units + 65 < cLine) : A.units + 1 + min (PyData.depthAll ds) d.depth < cLine := by
  have h1 := SeqAt.depth_of_shaped h
  have h2 : min (PyData.depthAll ds) d.depth ≤ d.depth := Nat.min_le_right _ _
  omega
theorem op_inT (hu : X.A.units + 65 < cLine) : OpR X (compareOp .In) (rInT X.K false) := by
  intro pins s σ H x y v u Q I rx ry h
  obtain ⟨d, ds, hd, he, sd, se, q⟩ := h
  obtain ⟨as, r1⟩ := Dp.reads I d x v hd rx
  obtain ⟨bs, r2⟩ := Dp.reads I (.tuple ds) y u he ry
  exact SeqAt.in_tuple_reads r2 r1 (SeqAt.canLay_of_shaped se) (SeqAt.canLay_of_shaped sd) (room_in_t sd hu) ⟨.bl _, H, I, rfl, q⟩
theorem op_notInT (hu : X.A.units + 65 < cLine) : OpR X (compareOp .NotIn) (rInT X.K true) := by
  intro pins s σ H x y v u Q I rx ry h
  obtain ⟨d, ds, hd, he, sd, se, q⟩ := h
  obtain ⟨as, r1⟩ := Dp.reads I d x v hd rx
  obtain ⟨bs, r2⟩ := Dp.reads I (.tuple ds) y u he ry
  exact SeqAt.notIn_tuple_reads r2 r1 (SeqAt.canLay_of_shaped se) (SeqAt.canLay_of_shaped sd) (room_in_t sd hu) ⟨.bl _, H, I, rfl, q⟩
def oIn (neg : Bool) : Op2 := fun x y Q => match y with
  | .tup ys => x.good = true ∧ D.good (.tup ys) = true ∧ Q (.bl (if neg then !(ys.any fun z => eqD z x) else ys.any fun z => eqD z x))
  | .lst ys => x.good = true ∧ D.good (.lst ys) = true ∧ Q (.bl (if neg then !(ys.any fun z => eqD z x) else ys.any fun z => eqD z x))
  | .str t => match x with
    | .str w => Q (.bl (if neg then !(!(Builtin.Str.occurrences t w 0 t.length 1).isEmpty) else !(Builtin.Str.occurrences t w 0 t.length 1).isEmpty))
    | _ => False
  | _ => False
theorem any_pys (ys : List D) (x : D) : ((D.pys ys).any fun z => PyData.eqv z x.py) = ys.any fun z => eqD z x := by
  rw [D.pys_map, List.any_map]; rfl
theorem od_in (hu : X.A.units + 65 < cLine) : OpD X (compareOp .In) (oIn false) := by
  refine ⟨_, OpR_or (op_inT hu) (OpR_or (op_inD hu) op_in_str), fun H x y d e Q Q' rx ry o f => ?_⟩
  unfold oIn at o
  split at o
  · rename_i ys
    obtain ⟨g1, g2, o⟩ := o
    have h := Rep.dp _ (good_plain g2) ry
    have s2 := good_shaped g2
    simp only [D.py] at h s2
    exact .inl ⟨d.py, D.pys ys, Rep.dp d (good_plain g1) rx, h, good_shaped g1, s2, f.at (by simp only [any_pys]; exact .bl _) o⟩
  · rename_i ys
    obtain ⟨g1, g2, o⟩ := o
    have h := Rep.dp _ (good_plain g2) ry
    have s2 := good_shaped g2
    simp only [D.py] at h s2
    exact .inr (.inl ⟨d.py, D.pys ys, Rep.dp d (good_plain g1) rx, h, good_shaped g1, s2, f.at (by simp only [any_pys]; exact .bl _) o⟩)
  · split at o
    · cases rx; cases ry; exact .inr (.inr ⟨_, _, rfl, rfl, f.at (.bl _) o⟩)
    · exact o.elim
  · exact o.elim
theorem od_notIn (hu : X.A.units + 65 < cLine) : OpD X (compareOp .NotIn) (oIn true) := by
  refine ⟨_, OpR_or (op_notInT hu) (OpR_or (op_notInD hu) op_notin_str), fun H x y d e Q Q' rx ry o f => ?_⟩
  unfold oIn at o
  split at o
  · rename_i ys
    obtain ⟨g1, g2, o⟩ := o
    have h := Rep.dp _ (good_plain g2) ry
    have s2 := good_shaped g2
    simp only [D.py] at h s2
    exact .inl ⟨d.py, D.pys ys, Rep.dp d (good_plain g1) rx, h, good_shaped g1, s2, f.at (by simp only [any_pys]; exact .bl _) o⟩
  · rename_i ys
    obtain ⟨g1, g2, o⟩ := o
    have h := Rep.dp _ (good_plain g2) ry
    have s2 := good_shaped g2
    simp only [D.py] at h s2
    exact .inr (.inl ⟨d.py, D.pys ys, Rep.dp d (good_plain g1) rx, h, good_shaped g1, s2, f.at (by simp only [any_pys]; exact .bl _) o⟩)
  · split at o
    · cases rx; cases ry; exact .inr (.inr ⟨_, _, rfl, rfl, f.at (.bl _) o⟩)
    · exact o.elim
  · exact o.elim
/-- is None, is not None -/
def D.isN : D → Bool
  | .non => true
  | _ => false
def oIsN (neg : Bool) : Op2 := fun x y Q => match y with
  | .non => Q (.bl (if neg then !x.isN else x.isN))
  | _ => False
theorem isN_rep {K : PySem.W.Frag} {H : Hp} {v : V} {d : D} (r : Rep K H v d) : decide (v = .non) = d.isN := by
  cases r <;> simp [D.isN]
theorem od_isN : OpD X (compareOp .Is) (oIsN false) := by
  refine ⟨_, op_isN, fun H x y d e Q Q' rx ry o f => ?_⟩
  unfold oIsN at o
  split at o
  · cases ry
    exact ⟨rfl, f.at (by rw [isN_rep rx]; exact .bl _) o⟩
  · exact o.elim
theorem od_notN : OpD X (compareOp .IsNot) (oIsN true) := by
  refine ⟨_, op_notN, fun H x y d e Q Q' rx ry o f => ?_⟩
  unfold oIsN at o
  split at o
  · cases ry
    exact ⟨rfl, f.at (by rw [isN_rep rx]; exact .bl _) o⟩
  · exact o.elim
/-! ### subscripts, slices -/
def oIx : Op2 := fun x y Q => match x, y with
  | .tup xs, .int i => ∃ d, atI xs i = some d ∧ Q d
  | .lst xs, .int i => ∃ d, atI xs i = some d ∧ Q d
  | .str z, .int i => z.length ≤ sizeLine ∧ ∃ c, atI z.cps.toList i = some c ∧ Q (.str ⟨#[c]⟩)
  | _, _ => False
theorem atI_rep {K : PySem.W.Frag} {H : Hp} {vs : List V} {ds : List D} {i : Int} {d : D} (r : RepAll K H vs ds) (h : atI ds i = some d) : ∃ v, atI vs i = some v ∧ Rep K H v d := by
  unfold atI at h ⊢
  rw [r.length]
  cases e : ixN ds.length i with
  | none => rw [e] at h; cases h
  | some j => rw [e] at h; exact r.get h
theorem ixd : IxD X oIx := by
  refine ⟨_, ix_seq, fun H x y d e Q Q' rx ry o f => ?_⟩
  unfold oIx at o
  split at o
  · cases rx with
    | tup h r =>
      cases ry
      obtain ⟨c, e, o⟩ := o
      obtain ⟨v, e1, rv⟩ := atI_rep r e
      exact .inr (.inl ⟨_, _, _, v, rfl, rfl, h, e1, f.at rv o⟩)
  · cases rx with
    | lst h r =>
      cases ry
      obtain ⟨c, e, o⟩ := o
      obtain ⟨v, e1, rv⟩ := atI_rep r e
      exact .inl ⟨_, _, _, v, rfl, rfl, h.sq, e1, f.at rv o⟩
  · cases rx; cases ry
    obtain ⟨hz, c, e, o⟩ := o
    exact .inr (.inr ⟨_, _, c, rfl, rfl, hz, e, f.at (.str _) o⟩)
  · exact o.elim
/-- xs[lo:hi] -/
def cutD (xs : List D) (lo hi : Option Int) : List D := (xs.drop (HT.sIx xs.length 0 lo)).take (HT.sIx xs.length xs.length hi - HT.sIx xs.length 0 lo)
def oSl : D → Option Int → Option Int → (D → Prop) → Prop := fun x lo hi Q => match x with
  | .tup xs => Q (.tup (cutD xs lo hi))
  | .lst xs => Q (.lst (cutD xs lo hi))
  | _ => False
theorem cut_rep {K : PySem.W.Frag} {H : Hp} {vs : List V} {ds : List D} (r : RepAll K H vs ds) (lo hi : Option Int) : RepAll K H (cutV vs lo hi) (cutD ds lo hi) := by
  unfold cutV cutD
  rw [r.length]
  exact (r.drop _).take _
theorem sld : SlD X oSl := by
  refine ⟨_, SlR.or sl_tupA (SlR_frz sl_list), fun H x d lo hi Q Q' rx o f => ?_⟩
  unfold oSl at o
  split at o
  · cases rx with
    | tup h r =>
      refine .inl ⟨_, _, rfl, h, fun hw => ?_, fun _ p hp => f.newT hp (cut_rep r lo hi) o⟩
      refine f.at (.tup h r) ?_
      rename_i xs _ _
      have hl := r.length
      rw [hl] at hw
      have e : cutD xs lo hi = xs := by
        unfold cutD
        rw [hw.1, hw.2, List.drop_zero, Nat.sub_zero, List.take_length]
      rw [e] at o
      exact o
  · cases rx with
    | lst h r => exact .inr ⟨_, _, rfl, h.sq, fun p hp => f.newL hp (cut_rep r lo hi) o⟩
  · exact o.elim
/-! ### built-ins -/
def oLen : OpN := fun ds Q => match ds with
  | [.tup xs] => Q (.int xs.length)
  | [.lst xs] => Q (.int xs.length)
  | [.str z] => z.length ≤ sizeLine ∧ Q (.int z.length)
  | _ => False
theorem cd_len : CallD X (.builtin "len") oLen := by
  refine ⟨_, CallR.or call_len_seq call_len_str, fun H xs ds Q Q' r o f => ?_⟩
  unfold oLen at o
  split at o
  · cases r with
    | cons r1 rr =>
      cases rr
      cases r1 with
      | tup h ra => exact .inl ⟨_, _, rfl, .inr h, by rw [ra.length]; exact f.at (.int _) o⟩
  · cases r with
    | cons r1 rr =>
      cases rr
      cases r1 with
      | lst h ra => exact .inl ⟨_, _, rfl, .inl h.sq, by rw [ra.length]; exact f.at (.int _) o⟩
  · cases r with
    | cons r1 rr => cases rr; cases r1; exact .inr ⟨_, rfl, o.1, f.at (.int _) o.2⟩
  · exact o.elim
theorem rep1 {K : PySem.W.Frag} {H : Hp} {xs : List V} {d : D} (r : RepAll K H xs [d]) : ∃ v, xs = [v] ∧ Rep K H v d := by
  cases r with
  | cons r1 rr => cases rr; exact ⟨_, rfl, r1⟩
theorem rep2 {K : PySem.W.Frag} {H : Hp} {xs : List V} {d e : D} (r : RepAll K H xs [d, e]) : ∃ v w, xs = [v, w] ∧ Rep K H v d ∧ Rep K H w e := by
  cases r with
  | cons r1 rr =>
    cases rr with
    | cons r2 rr => cases rr; exact ⟨_, _, rfl, r1, r2⟩
def o1I (g : Int → Int) : OpN := fun ds Q => match ds with
  | [.int i] => Q (.int (g i))
  | _ => False
def o2I (g : Int → Int → Int) : OpN := fun ds Q => match ds with
  | [.int i, .int j] => Q (.int (g i j))
  | _ => False
theorem cd_abs : CallD X (.builtin "abs") (o1I fun i => if i < 0 then -i else i) := by
  refine ⟨_, call_abs, fun H xs ds Q Q' r o f => ?_⟩
  unfold o1I at o
  split at o
  · obtain ⟨v, rfl, r1⟩ := rep1 r
    cases r1; exact ⟨_, rfl, f.at (.int _) o⟩
  · exact o.elim
theorem cd_int : CallD X (.type "int") (o1I fun i => i) := by
  refine ⟨_, call_int1, fun H xs ds Q Q' r o f => ?_⟩
  unfold o1I at o
  split at o
  · obtain ⟨v, rfl, r1⟩ := rep1 r
    cases r1; exact .inl ⟨_, rfl, f.at (.int _) o⟩
  · exact o.elim
theorem cd_max2 (hc : X.calm = true) : CallD X (.builtin "max") (o2I fun i j => if j > i then j else i) := by
  refine ⟨_, call_max2 hc, fun H xs ds Q Q' r o f => ?_⟩
  unfold o2I at o
  split at o
  · obtain ⟨v, w, rfl, r1, r2⟩ := rep2 r
    cases r1; cases r2; exact ⟨_, _, rfl, f.at (.int _) o⟩
  · exact o.elim
theorem cd_min2 (hc : X.calm = true) : CallD X (.builtin "min") (o2I fun i j => if j < i then j else i) := by
  refine ⟨_, call_min2 hc, fun H xs ds Q Q' r o f => ?_⟩
  unfold o2I at o
  split at o
  · obtain ⟨v, w, rfl, r1, r2⟩ := rep2 r
    cases r1; cases r2; exact ⟨_, _, rfl, f.at (.int _) o⟩
  · exact o.elim
/-- lists of numbers, of bools -/
def intsD : List D → Option (List Int)
  | [] => some []
  | .int i :: r => (intsD r).map (i :: ·)
  | _ :: _ => none
def blsD : List D → Option (List Bool)
  | [] => some []
  | .bl i :: r => (blsD r).map (i :: ·)
  | _ :: _ => none
theorem ints_rep {K : PySem.W.Frag} {H : Hp} : ∀ {vs : List V} {ds : List D} {ns : List Int}, RepAll K H vs ds → intsD ds = some ns → vs = ns.map V.int
  | _, [], _, h, e => by cases h; simp [intsD] at e; subst e; rfl
  | _, d :: r, ns, h, e => by
    cases h with
    | cons h1 h2 =>
      cases h1 with
      | int i =>
        simp only [intsD, Option.map_eq_some_iff] at e
        obtain ⟨ms, e, rfl⟩ := e
        rw [ints_rep h2 e]; rfl
      | _ => simp [intsD] at e
theorem bls_rep {K : PySem.W.Frag} {H : Hp} : ∀ {vs : List V} {ds : List D} {ns : List Bool}, RepAll K H vs ds → blsD ds = some ns → vs = ns.map V.bl
  | _, [], _, h, e => by cases h; simp [blsD] at e; subst e; rfl
  | _, d :: r, ns, h, e => by
    cases h with
    | cons h1 h2 =>
      cases h1 with
      | bl i =>
        simp only [blsD, Option.map_eq_some_iff] at e
        obtain ⟨ms, e, rfl⟩ := e
        rw [bls_rep h2 e]; rfl
      | _ => simp [blsD] at e
theorem ints_map (ns : List Int) : intsD (ns.map D.int) = some ns := by
  induction ns with
  | nil => rfl
  | cons n r ih => simp only [List.map_cons, intsD, ih]; rfl
theorem bls_map (ns : List Bool) : blsD (ns.map D.bl) = some ns := by
  induction ns with
  | nil => rfl
  | cons n r ih => simp only [List.map_cons, blsD, ih]; rfl
def oSum : OpN := fun ds Q => ∃ xs ns, ds = [.lst xs] ∧ intsD xs = some ns ∧ Q (.int ns.sum)
theorem cd_sum (hc : X.calm = true) : CallD X (.builtin "sum") oSum := by
  refine ⟨_, cr_sum hc, fun H xs ds Q Q' r o f => ?_⟩
  obtain ⟨ys, ns, rfl, e, o⟩ := o
  obtain ⟨v, rfl, r1⟩ := rep1 r
  cases r1 with
  | lst h ra => exact ⟨_, ns, rfl, by rw [← ints_rep ra e]; exact h.sq, f.at (.int _) o⟩
def oAll : OpN := fun ds Q => ∃ xs bs, ds = [.lst xs] ∧ blsD xs = some bs ∧ Q (.bl (bs.all id))
def oAny : OpN := fun ds Q => ∃ xs bs, ds = [.lst xs] ∧ blsD xs = some bs ∧ Q (.bl (bs.any id))
theorem cd_all (hc : X.calm = true) : CallD X (.builtin "all") oAll := by
  refine ⟨_, cr_all hc, fun H xs ds Q Q' r o f => ?_⟩
  obtain ⟨ys, ns, rfl, e, o⟩ := o
  obtain ⟨v, rfl, r1⟩ := rep1 r
  cases r1 with
  | lst h ra => exact ⟨_, ns, rfl, by rw [← bls_rep ra e]; exact h.sq, f.at (.bl _) o⟩
theorem cd_any (hc : X.calm = true) : CallD X (.builtin "any") oAny := by
  refine ⟨_, cr_any hc, fun H xs ds Q Q' r o f => ?_⟩
  obtain ⟨ys, ns, rfl, e, o⟩ := o
  obtain ⟨v, rfl, r1⟩ := rep1 r
  cases r1 with
  | lst h ra => exact ⟨_, ns, rfl, by rw [← bls_rep ra e]; exact h.sq, f.at (.bl _) o⟩
/-- list(x), tuple(x) -/
def oList : OpN := fun ds Q => match ds with
  | [.tup xs] => Q (.lst xs)
  | [.lst xs] => Q (.lst xs)
  | _ => False
def oTuple : OpN := fun ds Q => match ds with
  | [.tup xs] => Q (.tup xs)
  | [.lst xs] => Q (.tup xs)
  | _ => False
theorem cd_list : CallD X (.type "list") oList := by
  refine ⟨_, CallR_frz call_list_of, fun H xs ds Q Q' r o f => ?_⟩
  unfold oList at o
  split at o
  · obtain ⟨v, rfl, r1⟩ := rep1 r
    cases r1 with
    | tup h ra => exact ⟨_, _, rfl, .inr h, fun l hl => f.newL hl ra o⟩
  · obtain ⟨v, rfl, r1⟩ := rep1 r
    cases r1 with
    | lst h ra => exact ⟨_, _, rfl, .inl h.sq, fun l hl => f.newL hl ra o⟩
  · exact o.elim
theorem cd_tuple : CallD X (.type "tuple") oTuple := by
  refine ⟨_, call_tuple_of, fun H xs ds Q Q' r o f => ?_⟩
  unfold oTuple at o
  split at o
  · obtain ⟨v, rfl, r1⟩ := rep1 r
    cases r1 with
    | tup h ra => exact ⟨_, _, rfl, .inr ⟨h, f.at (.tup h ra) o⟩⟩
  · obtain ⟨v, rfl, r1⟩ := rep1 r
    cases r1 with
    | lst h ra => exact ⟨_, _, rfl, .inl ⟨h.sq, fun l hl => f.newT hl ra o⟩⟩
  · exact o.elim
/-- isinstance(x, T), T a built-in class -/
def D.tyN : D → Option String
  | .non => some "NoneType"
  | .bl _ => some "bool"
  | .int _ => some "int"
  | .str _ => some "str"
  | .tup _ => some "tuple"
  | .lst _ => some "list"
  | _ => none
/-- data without dicts, objects and classes at its top -/
def D.dat : D → Bool
  | .dct _ _ => false
  | .adr _ => false
  | .ty _ => false
  | _ => true
def D.isInt : D → Bool
  | .int _ => true
  | .bl _ => true
  | _ => false
def D.isBool : D → Bool
  | .bl _ => true
  | _ => false
def D.isStr : D → Bool
  | .str _ => true
  | _ => false
def D.isTup : D → Bool
  | .tup _ => true
  | _ => false
def D.isLst : D → Bool
  | .lst _ => true
  | _ => false
def isiB (x : D) (T : String) : Bool := match T with
  | "int" => x.isInt
  | "bool" => x.isBool
  | "str" => x.isStr
  | "tuple" => x.isTup
  | "list" => x.isLst
  | _ => false
def isiT (T : String) : Bool := match T with
  | "int" => true
  | "bool" => true
  | "str" => true
  | "tuple" => true
  | "list" => true
  | _ => false
theorem isi_int (x : D) : isiB x "int" = x.isInt := rfl
theorem isi_bool (x : D) : isiB x "bool" = x.isBool := rfl
theorem isi_str (x : D) : isiB x "str" = x.isStr := rfl
theorem isi_tuple (x : D) : isiB x "tuple" = x.isTup := rfl
theorem isi_list (x : D) : isiB x "list" = x.isLst := rfl
theorem isiT_int : isiT "int" = true := rfl
theorem isiT_bool : isiT "bool" = true := rfl
theorem isiT_str : isiT "str" = true := rfl
theorem isiT_tuple : isiT "tuple" = true := rfl
theorem isiT_list : isiT "list" = true := rfl
def oIsi : OpN := fun ds Q => match ds with
  | [x, .ty T] => x.dat = true ∧ isiT T = true ∧ Q (.bl (isiB x T))
  | _ => False
theorem ty_rep {K : PySem.W.Frag} {H : Hp} {v : V} {d : D} {t : String} (r : Rep K H v d) (h : d.tyN = some t) : TyX K H v (.type t) := by
  cases r with
  | non => cases h; exact .base .non
  | bl b => cases h; exact .base (.bl b)
  | int i => cases h; exact .base (.int i)
  | str x => cases h; exact .base (.str x)
  | tup hs ra =>
    cases h
    rcases hs with (hs | ⟨o, hs⟩) | ⟨o, its, n, hk, hc, _⟩
    · exact .base (.tup hs)
    · exact .fTuple hs
    · exact .kTuple hk hc
  | lst hs ra =>
    cases h
    rcases hs with ⟨o, hs⟩ | ⟨o, its, n, hk, hc, _⟩
    · exact .base (.frz hs)
    · exact .kList hk hc
  | dct _ _ => cases h
  | adr _ => cases h
  | ty _ => cases h
theorem isiB_kit {T : String} {d : D} (h1 : d.dat = true) (h2 : isiT T = true) : ∃ t, d.tyN = some t ∧ kitB t T = some (isiB d T) := by
  unfold isiT at h2
  split at h2
  all_goals first | (cases h2; done) | skip
  all_goals (cases d <;> simp only [D.dat, Bool.false_eq_true] at h1 <;> exact ⟨_, rfl, by simp only [isiB, D.isInt, D.isBool, D.isStr, D.isTup, D.isLst]; decide +kernel⟩)
theorem cd_isi : CallD X (.builtin "isinstance") oIsi := by
  refine ⟨_, call_isi, fun H xs ds Q Q' r o f => ?_⟩
  unfold oIsi at o
  split at o
  · obtain ⟨v, w, rfl, r1, r2⟩ := rep2 r
    obtain ⟨h1, h2, o⟩ := o
    obtain ⟨t, ht, hk⟩ := isiB_kit h1 h2
    cases r2
    exact ⟨v, _, .type t, _, _, rfl, .ty _, ty_rep r1 ht, kit_ty hk, f.at (.bl _) o⟩
  · exact o.elim
end
end Pl
set_option Elab.async false
set_option linter.all false
set_option maxRecDepth 100000
set_option maxHeartbeats 4000000
/-! Pl, part 7: own objects: made, read, changed -/
namespace Pl
open PySem PySem.Spec L2
open PyProof.Rows (envOfC)
/-- where something is found: a value, or the own object of a slot -/
inductive Pk where
  | val (d : D) | slot (i : Nat)
inductive Con where
  | val (d : D) | own (o : Own) | bad
def con (S : Sta) : Pk → Con
  | .val (.adr a) => match S.W a with
    | some o => .own o
    | none => .val (.adr a)
  | .val d => .val d
  | .slot i => match S.ρ[i]? with
    | some (.own o) => .own o
    | some (.val d) => .val d
    | _ => .bad
def RepK (K : PySem.W.Frag) (H : Hp) (σ : St) (v : V) : Pk → Prop
  | .val d => Rep K H v d
  | .slot i => σ[i]? = some (some v)
def RepC (K : PySem.W.Frag) (H : Hp) (v : V) : Con → Prop
  | .val d => Rep K H v d
  | .own o => ∃ a, v = .ref a ∧ OwnAt K H a o
  | .bad => True
theorem con_rep {K : PySem.W.Frag} {H : Hp} {σ : St} {S : Sta} {v : V} {p : Pk} (r : Rel K H σ S) (h : RepK K H σ v p) : RepC K H v (con S p) := by
  cases p with
  | val d =>
    cases d with
    | adr a =>
      show RepC K H v (match S.W a with | some o => .own o | none => .val (.adr a))
      cases e : S.W a with
      | some o => cases h; exact ⟨a, rfl, r.wor a o e⟩
      | none => exact h
    | _ => exact h
  | slot i =>
    show RepC K H v (match S.ρ[i]? with | some (.own o) => .own o | some (.val d) => .val d | _ => .bad)
    cases e : S.ρ[i]? with
    | none => trivial
    | some s =>
      have q := r.slot i s e
      have h' : σ[i]? = some (some v) := h
      cases s with
      | emp => trivial
      | val d => obtain ⟨w, e1, e2⟩ := q; rw [h'] at e1; cases e1; exact e2
      | own o => obtain ⟨a, e1, e2⟩ := q; rw [h'] at e1; cases e1; exact ⟨a, rfl, e2⟩
theorem RepK.nx {K : PySem.W.Frag} {σ : St} {S S1 : Sta} {H H1 : Hp} {v : V} {p : Pk} (n : Nx σ S H σ S1 H1) (h : RepK K H σ v p) : RepK K H1 σ v p := by
  cases p with
  | val d => exact Rep.nx n h
  | slot i => exact h
abbrev PTK := Sta → (Pk → Sta → Prop) → PX → Prop
def lK (X : Cx) (W : WX) (t : PTK) : TE := fun σ H Q => ∃ S Q' E', Rel X.K H σ S ∧ t S Q' E' ∧ (∀ v p H' S', Nx σ S H σ S' H' → Rel X.K H' σ S' → RepK X.K H' σ v p → Q' p S' → Q v H') ∧ UpX X.K σ S H W E'
def PK (X : Cx) (e : Expr) (t : PTK) : Prop := ∀ W, Takes X W → PE X e (lK X W t)
def pkVar (i : Nat) : PTK := fun S Q _ => match S.ρ[i]? with
  | some (.val d) => Q (.val d) S
  | some (.own _) => Q (.slot i) S
  | _ => False
def pkOf (t : PTE) : PTK := fun S Q E => t S (fun d S1 => Q (.val d) S1) E
section
variable {X : Cx} {e a b : Expr} {te ta tb : PTE} {tk : PTK} {pos : Pos}
theorem pk_var {i : Nat} (h : PE X e (tVar i)) : PK X e (pkVar i) := fun W _ => weakE h fun σ H Q => by
  rintro ⟨S, Q', E', rel, q, up, _⟩
  unfold pkVar at q
  split at q
  · rename_i d es
    obtain ⟨v, h1, h2⟩ := rel.slot i _ es
    exact ⟨v, h1, up v (.val d) _ _ .refl rel h2 q⟩
  · rename_i o es
    obtain ⟨a, h1, _⟩ := rel.slot i _ es
    exact ⟨_, h1, up _ (.slot i) _ _ .refl rel h1 q⟩
  · exact q.elim
theorem pk_of (h : PM X e te) : PK X e (pkOf te) := fun W tk => weakE (h W tk) fun σ H Q => by
  rintro ⟨S, Q', E', rel, q, up, ux⟩
  exact ⟨S, _, E', rel, q, fun v d H1 S1 n1 r1 p1 q1 => up v (.val d) H1 S1 n1 r1 p1 q1, ux⟩
/-! ### dicts as data -/
def keyK : D → Option Key
  | .int i => some (.inl i)
  | .str x => some (.inr x)
  | _ => none
def dget (ks vs : List D) (k : D) : Option D := ((ks.zip vs).find? fun p => eqD p.1 k).map (·.2)
def dput (ks vs : List D) (k v : D) : List D × List D := if (ks.any fun x => eqD x k) = true then (ks, (ks.zip vs).map fun p => if eqD p.1 k = true then v else p.2) else (ks ++ [k], vs ++ [v])
theorem keyK_some {d : D} {k : Key} (h : keyK d = some k) : d = keyD k := by
  cases d <;> simp only [keyK, Option.some.injEq] at h <;> first | (subst h; rfl) | cases h
theorem eqD_key (k l : Key) : eqD (keyD k) (keyD l) = decide (k = l) := by
  cases k with
  | inl i =>
    cases l with
    | inl j => show (i == j) = _; rw [key_ll]
    | inr y => show false = _; rw [key_lr]
  | inr x =>
    cases l with
    | inl j => show false = _; rw [key_rl]
    | inr y => show (x == y) = _; rw [key_rr, Bool.beq_eq_decide_eq]
theorem keyV {K : PySem.W.Frag} {H : Hp} {v : V} {k : Key} (r : Rep K H v (keyD k)) : v = kV k := by
  cases k <;> cases r <;> rfl
theorem dget_rep {K : PySem.W.Frag} {H : Hp} {k : Key} : ∀ {kvs : List (Key × V)} {ds : List D}, RepAll K H (kvs.map (·.2)) ds →
    match dget (kvs.map fun p => keyD p.1) ds (keyD k) with
    | some d => ∃ v, valV kvs k = some v ∧ Rep K H v d
    | none => valV kvs k = none
  | [], _, h => by cases h; exact valV_nil
  | p :: r, _, h => by
    cases h with
    | cons h1 h2 =>
      rename_i d ds
      have ih := dget_rep (k := k) h2
      by_cases e : p.1 = k
      · have : dget ((p :: r).map fun p => keyD p.1) (d :: ds) (keyD k) = some d := by
          simp [dget, eqD_key, e]
        rw [this]
        exact ⟨_, valV_pos e, h1⟩
      · have : dget ((p :: r).map fun p => keyD p.1) (d :: ds) (keyD k) = dget (r.map fun p => keyD p.1) ds (keyD k) := by
          simp [dget, eqD_key, e]
        rw [this, valV_neg e]
        exact ih
theorem any_key {k : Key} : ∀ kvs : List (Key × V), ((kvs.map fun p => keyD p.1).any fun x => eqD x (keyD k)) = kvs.any fun kv => decide (kv.1 = k)
  | [] => rfl
  | p :: r => by
    simp only [List.map_cons, List.any_cons, eqD_key, any_key r]
theorem dput_rep {K : PySem.W.Frag} {H : Hp} {k : Key} {v : V} {d : D} (hv : Rep K H v d) {kvs : List (Key × V)} {ds : List D} (h : RepAll K H (kvs.map (·.2)) ds) :
    (dput (kvs.map fun p => keyD p.1) ds (keyD k) d).1 = (putK kvs k v).map (fun p => keyD p.1) ∧ RepAll K H ((putK kvs k v).map (·.2)) (dput (kvs.map fun p => keyD p.1) ds (keyD k) d).2 := by
  unfold dput putK
  rw [any_key]
  by_cases e : (kvs.any fun kv => decide (kv.1 = k)) = true
  · rw [if_pos e, if_pos e]
    refine ⟨?_, ?_⟩
    · rw [List.map_map]
      refine List.map_congr_left fun p _ => ?_
      by_cases hp : p.1 = k
      · simp [hp]
      · simp [hp]
    · have go : ∀ (kvs : List (Key × V)) (ds : List D), RepAll K H (kvs.map (·.2)) ds → RepAll K H ((kvs.map fun kv => if kv.1 = k then (kv.1, v) else kv).map (·.2)) (((kvs.map fun p => keyD p.1).zip ds).map fun p => if eqD p.1 (keyD k) = true then d else p.2) := by
        intro kvs
        induction kvs with
        | nil => intro ds h; cases h; exact .nil
        | cons p r ih =>
          intro ds h
          cases h with
          | cons h1 h2 =>
            simp only [List.map_cons, List.zip_cons_cons, eqD_key]
            refine .cons ?_ (by simpa only [eqD_key] using ih _ h2)
            by_cases hp : p.1 = k
            · simp only [hp, if_true, decide_true]; exact hv
            · simp only [hp, if_false, decide_false, Bool.false_eq_true]; exact h1
      exact go kvs ds h
  · rw [if_neg e, if_neg e]
    exact ⟨by simp, by rw [List.map_append]; exact h.append (.cons hv .nil)⟩
/-! ### reading: x[i], len(x), k in x -/
def ixC : Con → D → (D → Prop) → Prop := fun c y Q => match c with
  | .val x => match x with
    | .dct ks vs => (keyK y).isSome = true ∧ ∃ d, dget ks vs y = some d ∧ Q d
    | _ => oIx x y Q
  | .own (.lst xs) => ∃ i d, y = .int i ∧ atI xs i = some d ∧ Q d
  | .own (.dct ks vs) => (keyK y).isSome = true ∧ ∃ d, dget ks vs y = some d ∧ Q d
  | .bad => False
/-- d[k], a dict that is tracked or frozen -/
def rIxDk : R2 := fun x y H Q => ∃ p v, x = .ref p ∧ DGet H p y (some v) ∧ Q v H
theorem ix_dk (hu : X.A.units + 1 < cLine) : IxR X rIxDk := by
  intro value slice pins s σ H x y v u Q I rx ry h hs
  obtain ⟨p, z, rfl, g, q⟩ := h
  cases rx
  exact PyProof.Rows.tail_any (dict_typeIs I g) PySem.F.slot_dict_getitem.lookup (d_getItem hu I g ry fun w' s3 I3 rw' => ⟨z, H, I3, rw', q⟩) hs
def pIxK (tk : PTK) (tb : PTE) : PTE := fun S Q E => tk S (fun p S1 => tb S1 (fun y S2 => ixC (con S2 p) y fun z => Q z S2) E) E
theorem ixC_ok {K : PySem.W.Frag} {H : Hp} {v w : V} {c : Con} {y : D} {Q : VK} {Q' : D → Prop} (rc : RepC K H v c) (ry : Rep K H w y) (o : ixC c y Q') (f : Fin K H Q Q') : rIx K v w H Q ∨ rIxDk v w H Q := by
  unfold ixC at o
  split at o
  · rename_i x
    split at o
    · rename_i ks vs
      obtain ⟨hk, d, hd, o⟩ := o
      obtain ⟨k, hk⟩ := Option.isSome_iff_exists.mp hk
      have ek := keyK_some hk
      subst ek
      cases rc with
      | dct h r =>
        have g := dget_rep (k := k) r
        rw [hd] at g
        obtain ⟨z, g1, g2⟩ := g
        refine .inr ⟨_, z, rfl, ?_, f.at g2 o⟩
        rw [keyV ry]
        exact .inl ⟨_, k, .inr ⟨_, h⟩, rfl, g1.symm⟩
    · left
      unfold oIx at o
      have rc : Rep K H v x := rc
      split at o
      · cases rc with
        | tup h r =>
          cases ry
          obtain ⟨c, e, o⟩ := o
          obtain ⟨v, e1, rv⟩ := atI_rep r e
          exact .inr (.inl ⟨_, _, _, v, rfl, rfl, h, e1, f.at rv o⟩)
      · cases rc with
        | lst h r =>
          cases ry
          obtain ⟨c, e, o⟩ := o
          obtain ⟨v, e1, rv⟩ := atI_rep r e
          exact .inl ⟨_, _, _, v, rfl, rfl, h.sq, e1, f.at rv o⟩
      · cases rc; cases ry
        obtain ⟨hz, c, e, o⟩ := o
        exact .inr (.inr ⟨_, _, c, rfl, rfl, hz, e, f.at (.str _) o⟩)
      · exact o.elim
  · rename_i xs
    obtain ⟨i, d, rfl, e, o⟩ := o
    obtain ⟨a, rfl, vs, h, r⟩ := rc
    cases ry
    obtain ⟨z, e1, rz⟩ := atI_rep r e
    exact .inl (.inl ⟨_, _, _, z, rfl, rfl, .of h, e1, f.at rz o⟩)
  · rename_i ks vs
    obtain ⟨hk, d, hd, o⟩ := o
    obtain ⟨k, hk⟩ := Option.isSome_iff_exists.mp hk
    have ek := keyK_some hk
    subst ek
    obtain ⟨a, rfl, kvs, h, rfl, r⟩ := rc
    have g := dget_rep (k := k) r
    rw [hd] at g
    obtain ⟨z, g1, g2⟩ := g
    refine .inr ⟨_, z, rfl, ?_, f.at g2 o⟩
    rw [keyV ry]
    exact .inl ⟨_, k, .inl h, rfl, g1.symm⟩
  · exact o.elim
theorem pm_ixK (hu : X.A.units + 1 < cLine) (ha : PK X a tk) (hb : PM X b tb) (hpi : PlainIx b) : PM X (.Subscript a b pos) (pIxK tk tb) := fun W t => weakE (pe_ix (ix_seq.or (ix_dk hu)) (ha W t) (hb W t) hpi) fun σ H Q => by
  rintro ⟨S, Q', E', rel, q, up, ux⟩
  refine ⟨S, _, E', rel, q, fun v p H1 S1 n1 r1 p1 q1 => ?_, ux⟩
  refine ⟨S1, _, E', r1, q1, fun w y H2 S2 n2 r2 p2 q2 => ?_, ux.thn n1⟩
  exact ixC_ok (con_rep r2 (p1.nx n2)) p2 q2 (up.fin (n1.trans n2) r2)
/-- a table of the module: a dict that is written, its keys texts -/
def pTab (p : Addr) (tab : List (Str × D)) (ta tb : PTE) : PTE := pOp (fun x y Q => x = .adr p ∧ ∃ z d, y = .str z ∧ tab.lookup z = some d ∧ Q d) ta tb
theorem pm_tab {p : Addr} {tab : List (Str × D)} (ht : ∀ z d, tab.lookup z = some d → ∃ v, KDct X.K X.w p z v ∧ ∀ H, Rep X.K H v d) (ha : PM X a ta) (hb : PM X b tb) (hpi : PlainIx b) : PM X (.Subscript a b pos) (pTab p tab ta tb) :=
  pm_ix ⟨_, ix_kdict, fun H x y d e Q Q' rx ry o f => by
    obtain ⟨rfl, z, c, rfl, hl, o⟩ := o
    cases rx; cases ry
    obtain ⟨v, hv, rv⟩ := ht z c hl
    exact ⟨_, _, v, rfl, rfl, hv, f.at (rv H) o⟩⟩ ha hb hpi
/-- len(x) -/
def lenC : Con → (D → Prop) → Prop := fun c Q => match c with
  | .val x => oLen [x] Q
  | .own (.lst xs) => Q (.int xs.length)
  | .own (.dct ks vs) => Q (.int ks.length)
  | .bad => False
/-! ### changing -/
def putC (S : Sta) : Pk → Own → Sta
  | .slot i, o => ⟨S.ρ.set i (.own o), S.W⟩
  | .val (.adr a), o => ⟨S.ρ, fun b => if b = a then some o else S.W b⟩
  | .val _, _ => S
theorem Rel.mut {K : PySem.W.Frag} {H : Hp} {σ : St} {S : Sta} {p : Pk} {o : Own} {v : V} (r : Rel K H σ S) (hc : con S p = .own o) (rv : RepK K H σ v p) :
    ∃ a, v = .ref a ∧ OwnAt K H a o ∧ ∀ (o' : Own) (u : HO), (∀ H2, Step (fun b => b = a) H H2 → H2 a = some u → OwnAt K H2 a o') → Nx σ S H σ (putC S p o') (upd H a u) ∧ Rel K (upd H a u) σ (putC S p o') := by
  have stepA : ∀ {A : Addr → Prop} {a : Addr} {u : HO}, Oa σ S a → A a → Step A H (upd H a u) := fun {A a u} ho ha b w e q => by
    by_cases hb : b = a
    · subst hb
      obtain ⟨u', e', np, _⟩ := r.known ho
      rw [e] at e'; cases e'
      rcases q with q | q
      · exact absurd q np
      · exact absurd ha q
    · rw [upd_ne hb]; exact e
  have kn : ∀ {a : Addr} {u : HO} b, (upd H a u) b = none → H b = none := fun {a u} b h => by
    by_cases hb : b = a
    · subst hb; rw [upd_same] at h; cases h
    · rw [upd_ne hb] at h; exact h
  cases p with
  | slot i =>
    have hc' : (match S.ρ[i]? with | some (.own o) => Con.own o | some (.val d) => .val d | _ => .bad) = .own o := hc
    split at hc'
    · rename_i o1 es
      cases hc'
      obtain ⟨a, e1, ow⟩ := r.slot i _ es
      have rv' : σ[i]? = some (some v) := rv
      rw [rv'] at e1; cases e1
      have oi : OwnS σ S.ρ i a := ⟨⟨_, es⟩, rv'⟩
      refine ⟨a, rfl, ow, fun o' u hO => ?_⟩
      have back : ∀ j b, OwnS σ (S.ρ.set i (.own o')) j b → OwnS σ S.ρ j b := fun j b h => by
        obtain ⟨⟨o2, h1⟩, h2⟩ := h
        by_cases hj : j = i
        · subst hj; exact ⟨⟨_, es⟩, h2⟩
        · rw [List.getElem?_set_ne (Ne.symm hj)] at h1; exact ⟨⟨o2, h1⟩, h2⟩
      have sa := stepA (A := fun b => b = a) (u := u) (.inl ⟨i, oi⟩) rfl
      refine ⟨⟨stepA (.inl ⟨i, oi⟩) (.inl ⟨i, oi⟩), kn, fun x h => .inl ?_⟩, ⟨by simpa [putC] using r.len, fun j s e => ?_, fun j k b h1 h2 => r.inj j k b (back _ _ h1) (back _ _ h2), fun b o2 h => ?_, fun j b h => r.dis j b (back _ _ h)⟩⟩
      · rcases h with ⟨j, h⟩ | h
        · exact .inl ⟨j, back j x h⟩
        · exact .inr h
      · have e' : (S.ρ.set i (.own o'))[j]? = some s := e
        by_cases hj : j = i
        · subst hj
          rw [List.getElem?_set_self (List.getElem?_eq_some_iff.mp es).1] at e'
          cases e'
          exact ⟨a, rv', hO _ sa upd_same⟩
        · rw [List.getElem?_set_ne (Ne.symm hj)] at e'
          have q := r.slot j s e'
          cases s with
          | emp => trivial
          | val d => obtain ⟨w, h1, h2⟩ := q; exact ⟨w, h1, h2.step sa⟩
          | own o2 =>
            obtain ⟨b, h1, h2⟩ := q
            exact ⟨b, h1, h2.step sa fun z => hj (r.inj j i b ⟨⟨o2, e'⟩, h1⟩ (z ▸ oi))⟩
      · refine (r.wor b o2 h).step sa fun z => ?_
        have z' : b = a := z
        subst z'
        have q : S.W b = none := r.dis i b oi
        rw [show S.W b = some o2 from h] at q; cases q
    · cases hc'
    · cases hc'
  | val d =>
    cases d with
    | adr a =>
      have hc' : (match S.W a with | some o => Con.own o | none => .val (.adr a)) = .own o := hc
      cases ew : S.W a with
      | none => rw [ew] at hc'; cases hc'
      | some o1 =>
        rw [ew] at hc'; cases hc'
        cases rv
        have oa : Oa σ S a := .inr (by rw [ew]; exact fun z => nomatch z)
        refine ⟨a, rfl, r.wor a _ ew, fun o' u hO => ?_⟩
        have sa := stepA (A := fun b => b = a) (u := u) oa rfl
        have ns : ∀ j b, OwnS σ S.ρ j b → b ≠ a := fun j b h z => by
          subst z
          have q := r.dis j b h
          rw [ew] at q; cases q
        refine ⟨⟨stepA oa oa, kn, fun x h => .inl ?_⟩, ⟨r.len, fun j s e => ?_, r.inj, fun b o2 h => ?_, fun j b h => ?_⟩⟩
        · rcases h with h | h
          · exact .inl h
          · by_cases hx : x = a
            · subst hx; exact oa
            · have h' : (if x = a then some o' else S.W x) ≠ none := h
              rw [if_neg hx] at h'; exact .inr h'
        · have q := r.slot j s e
          cases s with
          | emp => trivial
          | val d => obtain ⟨w, h1, h2⟩ := q; exact ⟨w, h1, h2.step sa⟩
          | own o2 => obtain ⟨b, h1, h2⟩ := q; exact ⟨b, h1, h2.step sa (ns j b ⟨⟨o2, e⟩, h1⟩)⟩
        · have h' : (if b = a then some o' else S.W b) = some o2 := h
          by_cases hb : b = a
          · subst hb; rw [if_pos rfl] at h'; cases h'; exact hO _ sa upd_same
          · rw [if_neg hb] at h'; exact (r.wor b o2 h').step sa hb
        · show (if b = a then some o' else S.W b) = none
          rw [if_neg (ns j b h)]; exact r.dis j b h
    | _ => cases hc
/-- x.append(e) -/
def pAppend (tk : PTK) (te : PTE) : PTS := fun P S => tk S (fun p S1 => (∃ xs, con S1 p = .own (.lst xs)) ∧ te S1 (fun d S2 => ∃ xs, con S2 p = .own (.lst xs) ∧ xs.length < sizeLine ∧ P.nx (putC S2 p (.lst (xs ++ [d])))) P.ex) P.ex
theorem pms_append {st : Stmt} (h : ∀ W, Takes X W → L2.PS X st (tDrop (tBM X.K "list" rAppend (lK X W tk) (tCons (lE X W te) tNil)))) : PMS X st (pAppend tk te) := fun W t => weakS (h W t) fun D σ H => by
  rintro ⟨S, P, rel, q, up⟩
  refine ⟨S, _, _, rel, q, fun v p H1 S1 n1 r1 p1 q1 => ?_, up.ux⟩
  obtain ⟨⟨xs, hc⟩, q1⟩ := q1
  obtain ⟨a, rfl, ⟨ys, ha, _⟩, _⟩ := r1.mut hc p1
  refine ⟨.inl ⟨rfl, _, .of ha⟩, S1, _, _, r1, q1, fun w d H2 S2 n2 r2 p2 q2 => ?_, up.ux.thn n1⟩
  obtain ⟨zs, hc2, hz, q2⟩ := q2
  obtain ⟨b, eb, ⟨ws, hb, rb⟩, mt⟩ := r2.mut hc2 (p1.nx n2)
  cases eb
  refine ⟨a, ws, w, rfl, rfl, hb, by rw [rb.length]; exact hz, ?_⟩
  obtain ⟨nx, r'⟩ := mt (.lst (zs ++ [d])) (.lst (ws ++ [w])) fun H3 st h3 => ⟨_, h3, (rb.step st).append (.cons (p2.step st) .nil)⟩
  exact up.nx _ _ _ ((n1.trans n2).trans nx) r' q2
/-- x.pop() -/
def pPop (tk : PTK) : PTE := fun S Q E => tk S (fun p S1 => ∃ xs d, con S1 p = .own (.lst xs) ∧ xs[xs.length - 1]? = some d ∧ Q d (putC S1 p (.lst xs.dropLast))) E
theorem RepAll.dropLast {K : PySem.W.Frag} {H : Hp} {vs : List V} {ds : List D} (r : RepAll K H vs ds) : RepAll K H vs.dropLast ds.dropLast := by
  rw [List.dropLast_eq_take, List.dropLast_eq_take, r.length]; exact r.take _
theorem pm_pop (h : ∀ W, Takes X W → PE X e (tBM0 X.K "list" rPop (lK X W tk))) : PM X e (pPop tk) := fun W t => weakE (h W t) fun σ H Q => by
  rintro ⟨S, Q', E', rel, q, up, ux⟩
  refine ⟨S, _, _, rel, q, fun v p H1 S1 n1 r1 p1 q1 => ?_, ux⟩
  obtain ⟨xs, d, hc, hl, q1⟩ := q1
  obtain ⟨a, rfl, ⟨ys, ha, ra⟩, mt⟩ := r1.mut hc p1
  obtain ⟨y, e1, ry⟩ := ra.get hl
  refine ⟨.inl ⟨rfl, _, .of ha⟩, a, ys, y, rfl, rfl, ha, by rw [ra.length]; exact e1, ?_⟩
  have st : ∀ {u}, Step (fun b => b = a) H1 (upd H1 a u) := fun {u} b w eb z => by
    by_cases hb : b = a
    · subst hb
      rw [ha] at eb; cases eb
      rcases z with z | z
      · exact z.elim
      · exact absurd rfl z
    · rw [upd_ne hb]; exact eb
  obtain ⟨nx, r'⟩ := mt (.lst xs.dropLast) (.lst ys.dropLast) fun H3 st h3 => ⟨_, h3, (ra.step st).dropLast⟩
  exact up _ _ _ _ (n1.trans nx) r' (ry.step st) q1
/-- x[i] = e -/
def setC : Con → D → D → (Own → Prop) → Prop := fun c i d Q => match c with
  | .own (.lst xs) => ∃ k j, i = .int k ∧ ixN xs.length k = some j ∧ Q (.lst (xs.set j d))
  | .own (.dct ks vs) => (keyK i).isSome = true ∧ ks.length < sizeLine ∧ Q (.dct (dput ks vs i d).1 (dput ks vs i d).2)
  | _ => False
def rSetD : TSet := fun o i v H Q => ∃ a H', o = .ref a ∧ DPut H a i v H' ∧ Q H'
theorem set_dict (hu : X.A.units + 1 < cLine) : PSet X rSetD := by
  intro pins s σ H o i v ov iv u Q I ro ri rv h
  obtain ⟨a, H', rfl, g, q⟩ := h
  cases ro
  exact d_setItem hu I g ri rv fun s4 I4 => ⟨H', I4, q⟩
theorem set_any (hu : X.A.units + 1 < cLine) : PSet X (fun o i v H Q => rSetL o i v H Q ∨ rSetD o i v H Q) := by
  intro pins s σ H o i v ov iv u Q I ro ri rv h
  rcases h with h | h
  · exact set_list pins s σ H o i v ov iv u Q I ro ri rv h
  · exact set_dict hu pins s σ H o i v ov iv u Q I ro ri rv h
def pStore (tv : PTE) (tk : PTK) (ti : PTE) : PTS := fun P S => tv S (fun d S1 => tk S1 (fun p S2 => ti S2 (fun i S3 => setC (con S3 p) i d fun o' => P.nx (putC S3 p o')) P.ex) P.ex) P.ex
theorem pms_store {tv ti : PTE} {st : Stmt} (h : ∀ W, Takes X W → L2.PS X st (tAsg (lE X W tv) (gSub (lK X W tk) (lE X W ti) fun o i v H Q => rSetL o i v H Q ∨ rSetD o i v H Q))) : PMS X st (pStore tv tk ti) := fun W t => weakS (h W t) fun D σ H => by
  rintro ⟨S, P, rel, q, up⟩
  refine ⟨S, _, _, rel, q, fun v d H1 S1 n1 r1 p1 q1 => ?_, up.ux⟩
  refine ⟨S1, _, _, r1, q1, fun x p H2 S2 n2 r2 p2 q2 => ?_, up.ux.thn n1⟩
  refine ⟨S2, _, _, r2, q2, fun y i H3 S3 n3 r3 p3 q3 => ?_, up.ux.thn (n1.trans n2)⟩
  have rd := (p1.nx n2).nx n3
  have rp := p2.nx n3
  have nn := (n1.trans n2).trans n3
  simp only [setC] at q3
  split at q3
  · rename_i xs hc
    obtain ⟨k, j, rfl, hj, q3⟩ := q3
    obtain ⟨a, rfl, ⟨ys, ha, ra⟩, mt⟩ := r3.mut hc rp
    cases p3
    obtain ⟨nx, r'⟩ := mt (.lst (xs.set j d)) (.lst (ys.set j v)) fun H4 st h4 => ⟨_, h4, RepAll.set (rd.step st) j (ra.step st)⟩
    exact .inl ⟨a, ys, k, j, rfl, rfl, ha, by rw [ra.length]; exact hj, up.nx _ _ _ (nn.trans nx) r' q3⟩
  · rename_i ks vs hc
    obtain ⟨hk, hl, q3⟩ := q3
    obtain ⟨k, hk⟩ := Option.isSome_iff_exists.mp hk
    have ek := keyK_some hk
    subst ek
    obtain ⟨a, rfl, ⟨kvs, ha, rfl, ra⟩, mt⟩ := r3.mut hc rp
    obtain ⟨nx, r'⟩ := mt (.dct (dput (kvs.map fun p => keyD p.1) vs (keyD k) d).1 (dput (kvs.map fun p => keyD p.1) vs (keyD k) d).2) (.dK (putK kvs k v)) fun H4 st h4 =>
      ⟨_, h4, (dput_rep (rd.step st) (ra.step st)).1, (dput_rep (rd.step st) (ra.step st)).2⟩
    refine .inr ⟨a, _, rfl, ?_, up.nx _ _ _ (nn.trans nx) r' q3⟩
    rw [keyV p3]
    exact .k ha (by rw [← List.length_map (f := fun p : Key × V => keyD p.1)]; exact hl)
  · exact q3.elim
/-! ### making -/
abbrev PTO := Sta → (Own → Sta → Prop) → PX → Prop
def lF (X : Cx) (W : WX) (t : PTO) : TE := fun σ H Q => ∃ S Q' E', Rel X.K H σ S ∧ t S Q' E' ∧ (∀ a o H' S', Nx σ S H σ S' H' → Rel X.K H' σ S' → OwnAt X.K H' a o → H a = none → ¬ Oa σ S' a → Q' o S' → Q (.ref a) H') ∧ UpX X.K σ S H W E'
def PMO (X : Cx) (e : Expr) (t : PTO) : Prop := ∀ W, Takes X W → PE X e (lF X W t)
def poLst (t : PTA) : PTO := fun S Q E => t S (fun ds S1 => ds.length ≤ sizeLine ∧ Q (.lst ds) S1) E
def poDct : PTO := fun S Q _ => Q (.dct [] []) S
theorem Rel.fresh {K : PySem.W.Frag} {H : Hp} {σ : St} {S : Sta} {a : Addr} (r : Rel K H σ S) (h : H a = none) : ¬ Oa σ S a := fun z => by
  obtain ⟨u, e, _⟩ := r.known z
  rw [h] at e; cases e
theorem pmo_lst {es : List Expr} {t : PTA} (h : PMA X es t) : PMO X (.List es pos) (poLst t) := fun W tk => weakE (pe_lst (h W tk)) fun σ H Q => by
  rintro ⟨S, Q', E', rel, q, up, ux⟩
  refine ⟨S, _, E', rel, q, fun vs ds H1 S1 n1 r1 p1 q1 => ⟨by rw [p1.length]; exact q1.1, fun p hp => ?_⟩, ux⟩
  have s : Same H1 (upd H1 p (.lst vs)) := same_new hp
  exact up _ (.lst ds) _ _ (n1.trans (.same s)) (r1.same s) ⟨vs, upd_same, p1.step (A := fun _ => False) (Step.of_same s)⟩ (n1.kn p hp) (r1.fresh hp) q1.2
theorem pmo_dct : PMO X (.Dict [] [] pos) poDct := fun W tk => weakE pe_dnewK fun σ H Q => by
  rintro ⟨S, Q', E', rel, q, up, ux⟩
  intro p hp
  have s : Same H (upd H p (.dK [])) := same_new hp
  exact up _ (.dct [] []) _ _ (.same s) (rel.same s) ⟨[], upd_same, rfl, .nil⟩ hp (rel.fresh hp) q
/-- x = [..], x only this name's -/
def pSetO (i : Nat) (t : PTO) : PTS := fun P S => t S (fun o S1 => P.nx ⟨S1.ρ.set i (.own o), S1.W⟩) P.ex
theorem pms_setO {i : Nat} {t : PTO} {st : Stmt} (h : ∀ W, Takes X W → L2.PS X st (tAsg (lF X W t) (gName i))) : PMS X st (pSetO i t) := fun W tk => weakS (h W tk) fun D σ H => by
  rintro ⟨S, P, rel, q, up⟩
  refine ⟨S, _, _, rel, q, fun a o H1 S1 n1 r1 ow hn no q1 => ?_, up.ux⟩
  obtain ⟨r', oa⟩ := r1.putOwn (i := i) ow no
  refine up.nx _ _ _ ⟨n1.st, n1.kn, fun x h => ?_⟩ r' q1
  rcases oa x h with h | h
  · exact n1.oa x h
  · subst h; exact .inr hn
/-- a new own object as a value: its address -/
def updW (W : Addr → Option Own) (a : Addr) (o : Own) : Addr → Option Own := fun b => if b = a then some o else W b
def pNewW (t : PTO) : PTE := fun S Q E => t S (fun o S1 => ∀ a, S1.W a = none → Q (.adr a) ⟨S1.ρ, updW S1.W a o⟩) E
theorem pm_newW {t : PTO} (h : PMO X e t) : PM X e (pNewW t) := fun W tk => weakE (h W tk) fun σ H Q => by
  rintro ⟨S, Q', E', rel, q, up, ux⟩
  refine ⟨S, _, _, rel, q, fun a o H1 S1 n1 r1 ow hn no q1 => ?_, ux⟩
  have wn : S1.W a = none := by
    cases z : S1.W a with
    | none => rfl
    | some o => exact absurd (.inr (by rw [z]; exact fun y => nomatch y)) no
  refine up _ _ _ ⟨S1.ρ, updW S1.W a o⟩ ⟨n1.st, n1.kn, fun x h => ?_⟩ ⟨r1.len, r1.slot, r1.inj, fun b o2 h => ?_, fun j b h => ?_⟩ (.adr a) (q1 a wn)
  · rcases h with h | h
    · exact n1.oa x (.inl h)
    · by_cases hx : x = a
      · subst hx; exact .inr hn
      · have h' : (if x = a then some o else S1.W x) ≠ none := h
        rw [if_neg hx] at h'; exact n1.oa x (.inr h')
  · have h' : (if b = a then some o else S1.W b) = some o2 := h
    by_cases hb : b = a
    · subst hb; rw [if_pos rfl] at h'; cases h'; exact ow
    · rw [if_neg hb] at h'; exact r1.wor b o2 h'
  · show (if b = a then some o else S1.W b) = none
    have hb : b ≠ a := fun z => no (.inl ⟨j, z ▸ h⟩)
    rw [if_neg hb]; exact r1.dis j b h
end
end Pl
set_option Elab.async false
set_option linter.all false
set_option maxRecDepth 100000
set_option maxHeartbeats 4000000
/-! Pl, part 8: chains, calls by name, try -/
namespace Pl
open PySem PySem.Spec L2
open PyProof.Rows (envOfC)
section
variable {X : Cx} {a b c e : Expr} {ta tb tc te : PTE} {tk : PTK} {pos : Pos} {o o' : Op2}
/-- a < b < c -/
def pChain (o o' : Op2) (ta tb tc : PTE) : PTE := fun S Q E => ta S (fun x S1 => tb S1 (fun y S2 => o x y fun z => ∃ k, z = .bl k ∧ if k = true then tc S2 (fun w S3 => o' y w fun u => Q u S3) E else Q (.bl false) S2) E) E
theorem pm_chain {op op' : CmpOp} (ho : OpD X (compareOp op) o) (ho' : OpD X (compareOp op') o') (ha : PM X a ta) (hb : PM X b tb) (hc : PM X c tc) (hm : lastMarks [op, op'] [b, c] = false := by with_unfolding_all rfl) :
    PM X (.Compare a [op, op'] [b, c] pos) (pChain o o' ta tb tc) := fun W tk => by
  obtain ⟨r, hr, hl⟩ := ho
  obtain ⟨r', hr', hl'⟩ := ho'
  refine weakE (pe_chain hr hr' (ha W tk) (hb W tk) (hc W tk) hm) ?_
  rintro σ H Q ⟨S, Q', E', rel, q, up, ux⟩
  refine ⟨S, _, E', rel, q, fun v d H1 S1 n1 r1 p1 q1 => ?_, ux⟩
  refine ⟨S1, _, E', r1, q1, fun w e H2 S2 n2 r2 p2 q2 => ?_, ux.thn n1⟩
  refine hl H2 v w d e _ _ (p1.nx n2) p2 q2 fun z cz H3 s3 rz q3 => ?_
  obtain ⟨k, rfl, q3⟩ := q3
  cases rz
  refine ⟨k, rfl, ?_⟩
  have n3 : Nx σ S H σ S2 H3 := (n1.trans n2).trans (.same s3)
  cases k with
  | true =>
    refine ⟨S2, _, E', r2.same s3, q3, fun u cu H4 S4 n4 r4 p4 q4 => ?_, ux.thn n3⟩
    exact hl' H4 w u e cu Q _ ((p2.step (Step.of_same (A := fun _ => False) s3)).nx n4) p4 q4 (up.fin (n3.trans n4) r4)
  | false => exact up _ _ _ _ n3 (r2.same s3) (.bl _) q3
/-- len(x), x an own object or a value -/
def pLenK (tk : PTK) : PTE := fun S Q E => tk S (fun p S1 => lenC (con S1 p) fun z => Q z S1) E
theorem pm_lenK {p : Pos} (hg : Gl X "len") (hm : X.mg "len" = none) (ha : PK X a tk) (he : starEach [a] X.env = (false, eval a X.env) :: starEach [] X.env := by rfl) (hpl : (backTo pos (starEach [] X.env)).any (·.1) = false := by rfl) :
    PM X (.Call (.Name "len" p) [a] [] pos) (pLenK tk) := fun W t => weakE (pe_callB (CallR.or call_len_seq (CallR.or call_len_str (fun pins s σ H xs us Q I r (h : ∃ d kvs, xs = [.ref d] ∧ H d = some (.dK kvs) ∧ Q (.int kvs.length) H) => call_lenD pins s σ H xs us Q I r h))) hg hm PySem.boot_len (pa_cons (ha W t) pa_nil he) (by decide) (by decide) he hpl) fun σ H Q => by
  rintro ⟨S, Q', E', rel, q, up, ux⟩
  refine ⟨S, _, E', rel, q, fun v p H1 S1 n1 r1 p1 q1 => ?_, ux⟩
  have rc := con_rep r1 p1
  have f := up.fin n1 r1
  show _ ∨ _ ∨ _
  unfold lenC at q1
  split at q1
  · rename_i x hx
    rw [hx] at rc
    have rc : Rep X.K H1 v x := rc
    unfold oLen at q1
    split at q1
    · rename_i xs hh
      cases hh
      cases rc with
      | tup h ra => exact .inl ⟨_, _, rfl, .inr h, by rw [ra.length]; exact f.at (.int _) q1⟩
    · rename_i xs hh
      cases hh
      cases rc with
      | lst h ra => exact .inl ⟨_, _, rfl, .inl h.sq, by rw [ra.length]; exact f.at (.int _) q1⟩
    · rename_i z hh
      cases hh
      cases rc
      exact .inr (.inl ⟨_, rfl, q1.1, f.at (.int _) q1.2⟩)
    · exact q1.elim
  · rename_i xs hx
    rw [hx] at rc
    obtain ⟨a, rfl, ys, h, ra⟩ := rc
    exact .inl ⟨_, _, rfl, .inl (.of h), by rw [ra.length]; exact f.at (.int _) q1⟩
  · rename_i ks vs hx
    rw [hx] at rc
    obtain ⟨a, rfl, kvs, h, rfl, ra⟩ := rc
    rw [List.length_map] at q1
    exact .inr (.inr ⟨a, kvs, rfl, h, f.at (.int _) q1⟩)
  · exact q1.elim
end
/-! ### defs by name -/
structure TopD (K : PySem.W.Frag) (mg : Str → Option Value) (x : Str) (ps : List Str) (st : Stmt) : Prop where
  ex : ∃ f fd, Fun K x x st f fd ∧ mg x = some (.ref f) ∧ Binds K fd ps []
structure CallF (P : Program) (w : World) (K : PySem.W.Frag) (mg : Str → Option Value) (base : Heap) (x : Str) (n k : Nat) (φ : PFn) : Prop where
  ex : ∃ f fd ps, FnOk P w K mg base (L2.CX P w) k f fd ps (spP K n φ) ∧ mg x = some (.ref f) ∧ PySem.W.keepIn K (.ref f) = true ∧ Binds K fd ps []
section
variable {P : Program} {w : World} {K : PySem.W.Frag} {mg : Str → Option Value} {base : Heap}
theorem CallF.wk {x : Str} {n k : Nat} {φ ψ : PFn} (c : CallF P w K mg base x n k φ) (h : ∀ ds Wo Q E, ψ ds Wo Q E → φ ds Wo Q E) : CallF P w K mg base x n k ψ := by
  obtain ⟨f, fd, ps, F, r⟩ := c.ex
  exact ⟨f, fd, ps, FnOk.wk F h, r⟩
theorem CallF.up {x : Str} {n k j : Nat} {φ : PFn} (c : CallF P w K mg base x n k φ) (h : k ≤ j) : CallF P w K mg base x n j φ := by
  obtain ⟨f, fd, ps, F, r⟩ := c.ex
  exact ⟨f, fd, ps, F.mono h, r⟩
theorem call_of {x : Str} {st : Stmt} {N ps : List Str} {k : Nat} {φ : PFn} (T : TopD K mg x ps st) (S : FnScope N ps (defScope st))
    (hbody : ∀ (f : Addr) (cdv : Value) (A : Around) (outer : List Env) (s : Shared) (H : Hp) (E : XK), Room k (A.deeper (envOfC x (defScope st) s.heap.objs.size f cdv)) →
      ∃ t, PMSs (cxOf (L2.CX P w) P w K mg base N x (defScope st) f cdv A outer s H E) (defBody st) t ∧
        ∀ ds Wo Q E', ds.length = ps.length → φ ds Wo Q E' → t { nx := fun S => Q .non S.W, rt := fun d S => Q d S.W, ex := fun x S => E' x S.W } ⟨start0 N.length ds, Wo⟩) :
    CallF P w K mg base x ps.length (k + 1) φ := by
  obtain ⟨f, fd, F, hm, hb⟩ := T.ex
  exact ⟨f, fd, ps, ok_of F S (hbody f), hm, F.kp, hb⟩
end
section
variable {X : Cx} {n k : Nat} {φ : PFn} {x : Str} {p pos : Pos} {e : Expr} {es : List Expr} {t : PTA}
theorem pm_callF (c : CallF X.prog X.w X.K X.mg X.base x n k φ) (hr : Room k X.A) (hg : Gl X x) (ha : PMA X (e :: es) t) (hdb : (x == ("__debug__" : Str)) = false := by decide)
    (he : starEach (e :: es) X.env = (false, eval e X.env) :: starEach es X.env := by rfl) (hpl : (backTo pos (starEach es X.env)).any (·.1) = false := by rfl) : PM X (.Call (.Name x p) (e :: es) [] pos) (pCall n φ t) := by
  obtain ⟨f, fd, ps, F, hm, hk, hb⟩ := c.ex
  exact pm_call F hr hg hm hk hb ha hdb he hpl
end
/-! ### raise and try of own exception classes -/
/-- what the top says of an own exception class (without its own __init__) -/
structure ExC (K : PySem.W.Frag) (mg : Str → Option Value) (x : Str) (C : Addr) : Prop where
  gP : mg x = some (.ref C)
  xP : PySem.W.excIn K C [.type "ValueError", .type "Exception", .type "BaseException", .type "object"] "ValueError.__new__" = true
  kP : PySem.W.keepIn K (.ref C) = true
  bP : PySem.W.subIn K (.ref C) (.type "BaseException") = some true
  tP : PySem.W.typeIn K (.ref C) = some (.type "type")
section
variable {X : Cx} {C : Addr} {x m : Str} {j : Nat} {p p2 pos pos' : Pos}
/-- raise X('..') -/
theorem pms_raiseOwn (hc : X.calm = true) (T : ExC X.K X.mg x C) (hg : Gl X x) (hdb : (x == ("__debug__" : Str)) = false := by decide) : PMS X (.Raise (some (.Call (.Name x p) [.Constant (.str m) j p2] [] pos)) none pos') (pRaise ⟨.ref C, none⟩) :=
  pms_raise fun W tk => ps_raise hc tk (pmk_own PySem.F.excBase_ValueError T.xP T.gP T.kP (raises_own T.bP T.tP) hg hdb)
/-- a slot forgotten -/
theorem Rel.drop {K : PySem.W.Frag} {H : Hp} {σ : St} {S : Sta} {i : Nat} (r : Rel K H σ S) : Nx σ S H (σ.set i none) ⟨S.ρ.set i .emp, S.W⟩ H ∧ Rel K H (σ.set i none) ⟨S.ρ.set i .emp, S.W⟩ := by
  have back : ∀ j b, OwnS (σ.set i none) (S.ρ.set i .emp) j b → OwnS σ S.ρ j b := fun j b h => by
    obtain ⟨⟨o', h1⟩, h2⟩ := h
    by_cases hj : j = i
    · subst hj
      by_cases hl : j < S.ρ.length
      · rw [List.getElem?_set_self hl] at h1; cases h1
      · rw [List.getElem?_eq_none (by simpa using hl)] at h1; cases h1
    · rw [List.getElem?_set_ne (Ne.symm hj)] at h1 h2
      exact ⟨⟨o', h1⟩, h2⟩
  refine ⟨⟨Step.refl, fun _ h => h, fun x h => .inl ?_⟩, ⟨by simpa using r.len, fun j s es => ?_, fun j k b h1 h2 => r.inj j k b (back _ _ h1) (back _ _ h2), r.wor, fun j b h => r.dis j b (back _ _ h)⟩⟩
  · rcases h with ⟨j, h⟩ | h
    · exact .inl ⟨j, back j x h⟩
    · exact .inr h
  · have es' : (S.ρ.set i .emp)[j]? = some s := es
    by_cases hj : j = i
    · subst hj
      by_cases hl : j < S.ρ.length
      · rw [List.getElem?_set_self hl] at es'; cases es'; trivial
      · rw [List.getElem?_eq_none (by simpa using hl)] at es'; cases es'
    · rw [List.getElem?_set_ne (Ne.symm hj)] at es'
      have q := r.slot j s es'
      have e2 : (σ.set i none)[j]? = σ[j]? := List.getElem?_set_ne (Ne.symm hj)
      rw [e2]; exact q
/-- a suite: what is caught is x -/
def lX (X : Cx) (ts : Exn → PTS) (cls : Value) (d : Option Addr) : TS := fun D σ H => ∃ S P x, Rel X.K H σ S ∧ XR X.K H x cls d ∧ ts x P S ∧ UpD X.K σ S H (fun _ _ _ _ => False) D P
def pTry (m : Value → Bool → Prop) (tb : PTS) (ts : Exn → PTS) : PTS := fun P S => tb { P with ex := fun x S1 => ∃ b, m x.cls b ∧ (b = true → ts x { P with ex := noX } S1) ∧ (b = false → P.ex x S1) } S
def pTryAs (m : Value → Bool → Prop) (i : Nat) (tb : PTS) (ts : Addr → Exn → PTS) : PTS := fun P S => tb { P with ex := fun x S1 => ∃ b, m x.cls b ∧
  (b = true → ∀ a, ts a x { nx := fun S2 => P.nx ⟨S2.ρ.set i .emp, S2.W⟩, rt := P.rt, bk := fun S2 => P.bk ⟨S2.ρ.set i .emp, S2.W⟩, ct := fun S2 => P.ct ⟨S2.ρ.set i .emp, S2.W⟩, ex := noX } ⟨S1.ρ.set i (.val (.adr a)), S1.W⟩) ∧ (b = false → P.ex x S1) } S
variable {c : Value} {body suite : List Stmt} {b₀ : Stmt} {np : Pos} {tb : PTS} {ts : Exn → PTS} {m : Value → Bool → Prop}
theorem pms_try (hs : X.stack = X.env :: X.outer) (hf : X.env.frame = some X.env.locals) (hc : Names X x c) (hm : ∀ cls b, m cls b → PySem.W.exmOne X.K cls c = some b)
    (hb : ∀ (pn : List (Addr × Obj)) (xe : Value → Shared → Prop), PassesOwn (model X.prog X.w) X.A X.env xe → PMSs (X.tr pn xe) body tb)
    (hsu : ∀ (a : Addr) (oe : Obj) (d : Option Addr) (pn : List (Addr × Obj)) (x : Exn), Zc x.cls d oe → (∃ vs, oe.data = .fields vs) → (x.line = none → d = none) → PMSs (X.suite a ((a, oe) :: pn)) (b₀ :: suite) (ts x)) :
    PMS X (.Try body [.ExceptHandler (some (.Name x np)) none (b₀ :: suite) pos'] [] [] pos) (pTry m tb ts) := fun W tk =>
  weakS (ps_try_only (tb := fun W => lS X W tb) (ts := fun _ cls d => lX X ts cls d) hs hf hc tk (fun W pn xe t hp => hb pn xe hp W t) (fun a oe cls d pn hz hf => ⟨fun pins s σ H D I q => by
      obtain ⟨S, P, x, rel, xr, q, up⟩ := q
      have ex : x.cls = cls := xr.1
      subst ex
      refine (hsu a oe d pn x hz hf (fun e => ?_) (fun _ _ _ _ => False) takes0).run pins s σ H D I ⟨S, P, rel, q, up⟩
      have h2 := xr.2
      rw [e] at h2
      exact h2⟩)) fun D σ H => by
    rintro ⟨S, P, rel, q, up⟩
    refine ⟨S, _, rel, q, ⟨up.nx, up.rt, up.bk, up.ct, fun x cls dd σ' H' S' n r xr h => ?_⟩⟩
    obtain ⟨b, h1, h2, h3⟩ := h
    have ex : x.cls = cls := xr.1
    subst ex
    have u := up.thn n
    exact ⟨b, hm _ _ h1, fun hb a _ => ⟨S', _, x, r, xr, h2 hb, ⟨u.nx, u.rt, u.bk, u.ct, fun _ _ _ _ _ _ _ _ _ z => z.elim⟩⟩, fun hb => up.ex x _ dd σ' H' S' n r xr (h3 hb)⟩
theorem pms_tryAs {ts : Addr → Exn → PTS} {i : Nat} {nm : Str} (hs : X.stack = X.env :: X.outer) (hf : X.env.frame = some X.env.locals) (hN : X.N.Nodup) (hi : X.N[i]? = some nm) (hln : X.env.kindOf nm = some .local) (hc : Names X x c) (hm : ∀ cls b, m cls b → PySem.W.exmOne X.K cls c = some b)
    (hb : ∀ (pn : List (Addr × Obj)) (xe : Value → Shared → Prop), PassesOwn (model X.prog X.w) X.A X.env xe → PMSs (X.tr pn xe) body tb)
    (hsu : ∀ (a : Addr) (oe : Obj) (d : Option Addr) (pn : List (Addr × Obj)) (x : Exn), Zc x.cls d oe → (∃ vs, oe.data = .fields vs) → (x.line = none → d = none) → PMSs (X.suite a ((a, oe) :: pn)) (b₀ :: suite) (ts a x)) :
    PMS X (.Try body [.ExceptHandler (some (.Name x np)) (some nm) (b₀ :: suite) pos'] [] [] pos) (pTryAs m i tb ts) := fun W tk =>
  weakS (ps_try_as (tb := fun W => lS X W tb) (ts := fun a cls d => lX X (ts a) cls d) hs hf hN hi hln hc tk (fun W pn xe t hp => hb pn xe hp W t) (fun a oe cls d pn hz hf => ⟨fun pins s σ H D I q => by
      obtain ⟨S, P, x, rel, xr, q, up⟩ := q
      have ex : x.cls = cls := xr.1
      subst ex
      refine (hsu a oe d pn x hz hf (fun e => ?_) (fun _ _ _ _ => False) takes0).run pins s σ H D I ⟨S, P, rel, q, up⟩
      have h2 := xr.2
      rw [e] at h2
      exact h2⟩)) fun D σ H => by
    rintro ⟨S, P, rel, q, up⟩
    refine ⟨S, _, rel, q, ⟨up.nx, up.rt, up.bk, up.ct, fun x cls dd σ' H' S' n r xr h => ?_⟩⟩
    obtain ⟨b, h1, h2, h3⟩ := h
    have ex : x.cls = cls := xr.1
    subst ex
    refine ⟨b, hm _ _ h1, fun hb a _ => ?_, fun hb => up.ex x _ dd σ' H' S' n r xr (h3 hb)⟩
    obtain ⟨np, rp⟩ := r.put (i := i) (Rep.adr (K := X.K) (H := H') a)
    have u := up.thn (n.trans np)
    refine ⟨_, _, x, rp, xr, h2 hb a, ⟨fun σ2 H2 S2 n2 r2 q2 => ?_, u.rt, fun σ2 H2 S2 n2 r2 q2 => ?_, fun σ2 H2 S2 n2 r2 q2 => ?_, fun _ _ _ _ _ _ _ _ _ z => z.elim⟩⟩
    · obtain ⟨n3, r3⟩ := r2.drop (i := i)
      exact u.nx _ _ _ (n2.trans n3) r3 q2
    · obtain ⟨n3, r3⟩ := r2.drop (i := i)
      exact u.bk _ _ _ (n2.trans n3) r3 q2
    · obtain ⟨n3, r3⟩ := r2.drop (i := i)
      exact u.ct _ _ _ (n2.trans n3) r3 q2
/-- isinstance(e, C), e the exception of the suite -/
def oIsE (K : PySem.W.Frag) (a : Addr) (x : Exn) : OpN := fun ds Q => ∃ c D b, ds = [.adr a, .adr c] ∧ x = ⟨.ref D, none⟩ ∧ ExcC K D ∧ PySem.W.kitOne K (.ref D) (.ref c) = some b ∧ Q (.bl b)
theorem cd_isE {a : Addr} {oe : Obj} {d : Option Addr} {pn : List (Addr × Obj)} {x : Exn} (hz : Zc x.cls d oe) (hf : ∃ vs, oe.data = .fields vs) (hl : x.line = none → d = none) : CallD (X.suite a ((a, oe) :: pn)) (.builtin "isinstance") (oIsE X.K a x) := by
  refine ⟨fun xs H Q => ∃ D, ExcC X.K D ∧ x = ⟨.ref D, none⟩ ∧ rIsE X.K D a xs H Q, fun pins s σ H xs us Q I r h => ?_, fun H xs ds Q Q' r o f => ?_⟩
  · obtain ⟨D, hD, rfl, h⟩ := h
    cases hl rfl
    exact call_isE hD hz hf pins s σ H xs us Q I r h
  · obtain ⟨c, D, b, rfl, hx, hD, hk, q⟩ := o
    obtain ⟨v, w, rfl, r1, r2⟩ := rep2 r
    cases r1
    cases r2
    exact ⟨D, hD, hx, _, _, b, rfl, fun u ru => by cases ru; rfl, hk, f.at (.bl _) q⟩
end
end Pl
set_option Elab.async false
set_option linter.all false
set_option maxRecDepth 100000
set_option maxHeartbeats 4000000
/-! Pl, part 9: globals, rooms, small words -/
namespace Pl
open PySem PySem.Spec L2
open PyProof.Rows (envOfC)
/-- a module's constant: an int, a text, a table of texts -/
def GI (mg : Str → Option Value) (x : Str) (i : Int) : Prop := ∃ t, mg x = some (.int i t)
def GS (mg : Str → Option Value) (x : Str) (z : Str) : Prop := ∃ t, mg x = some (.str z t)
def GT (K : PySem.W.Frag) (w : World) (mg : Str → Option Value) (x : Str) (tab : List (Str × D)) : Prop := ∃ p, mg x = some (.ref p) ∧ ∀ z d, tab.lookup z = some d → ∃ v, KDct K w p z v ∧ ∀ H, Rep K H v d
section
variable {X : Cx} {x : Str} {pos p : Pos} {i : Int} {a b : Expr} {tb : PTE}
theorem pm_gi (h : GI X.mg x i) (hg : Gl X x) (hd : (x == ("__debug__" : Str)) = false := by decide) : PM X (.Name x pos) (pC (.int i)) := by
  obtain ⟨t, h⟩ := h
  exact pm_glob hg h (v := .int i) ⟨t, rfl⟩ (fun _ => .int i) hd
theorem pm_gs {z : Str} (h : GS X.mg x z) (hg : Gl X x) (hd : (x == ("__debug__" : Str)) = false := by decide) : PM X (.Name x pos) (pC (.str z)) := by
  obtain ⟨t, h⟩ := h
  exact pm_glob hg h (v := .str z) ⟨t, rfl⟩ (fun _ => .str z) hd
/-- an own class: a global name -/
theorem pm_gr {y : Str} {C : Addr} (h : X.mg y = some (.ref C)) (hg : Gl X y) (hd : (y == ("__debug__" : Str)) = false := by decide) : PM X (.Name y pos) (pC (.adr C)) := pm_glob hg h (v := .ref C) rfl (fun _ => .adr C) hd
/-- a builtin class as a value -/
theorem pm_ty {x : String} (hg : Gl X x) (hm : X.mg x = none) (hv : bootBuiltins x = some (.type x)) (hn : (x : Str) ≠ "__name__" := by decide) (hd : ((x : Str) == ("__debug__" : Str)) = false := by decide) : PM X (.Name x pos) (pC (.ty x)) :=
  pm_c (pe_bltn hg hm hv (v := .ty x) rfl hn hd) fun _ => .ty x
/-- TABLE[e] -/
def pTabG (tab : List (Str × D)) (tb : PTE) : PTE := fun S Q E => tb S (fun y S1 => ∃ (z : Str) (d : D), y = D.str z ∧ tab.lookup z = some d ∧ Q d S1) E
theorem pm_tabG {tab : List (Str × D)} (h : GT X.K X.w X.mg x tab) (hg : Gl X x) (hb : PM X b tb) (hpi : PlainIx b) (hd : (x == ("__debug__" : Str)) = false := by decide) : PM X (.Subscript (.Name x p) b pos) (pTabG tab tb) := by
  obtain ⟨q, hm, ht⟩ := h
  have := pm_tab ht (pm_glob (pos := p) hg hm (v := .ref q) rfl (fun _ => .adr q) hd) hb hpi (pos := pos)
  intro W tk
  refine weakE (this W tk) fun σ H Q => ?_
  rintro ⟨S, Q', E', rel, z, up, ux⟩
  refine ⟨S, Q', E', rel, ?_, up, ux⟩
  show tb S (fun y S1 => D.adr q = .adr q ∧ _) E'
  have e : (fun y S1 => D.adr q = .adr q ∧ ∃ (z : Str) (d : D), y = D.str z ∧ tab.lookup z = some d ∧ Q' d S1) = fun y S1 => ∃ (z : Str) (d : D), y = D.str z ∧ tab.lookup z = some d ∧ Q' d S1 := by
    funext y S1; simp
  rw [e]
  exact z
end
theorem Room.hu64 {k : Nat} {A : Around} (r : Room k A) : A.units + 64 < cLine := r.units
theorem Room.hu65 {k : Nat} {A : Around} (r : Room k A) : A.units + 65 < cLine := by have := r.un; omega
theorem Room.hu1 {k : Nat} {A : Around} (r : Room k A) : A.units + 1 < cLine := by have := r.un; omega
end Pl
set_option Elab.async false
set_option linter.all false
set_option maxRecDepth 100000
set_option maxHeartbeats 4000000
/-! Pl, part 10: facts about data -/
namespace Pl
open PySem PySem.Spec L2
def eqDs (xs ys : List D) : Bool := PyData.eqvAll (D.pys xs) (D.pys ys)
theorem eqD_str (a b : Str) : eqD (.str a) (.str b) = (a == b) := by simp only [eqD, D.py, PyData.eqv]
theorem eqD_int (a b : Int) : eqD (.int a) (.int b) = (a == b) := by simp only [eqD, D.py, PyData.eqv]
theorem eqD_bl (a b : Bool) : eqD (.bl a) (.bl b) = (a == b) := by simp only [eqD, D.py, PyData.eqv]
theorem eqD_non : eqD .non .non = true := by simp only [eqD, D.py, PyData.eqv]
theorem eqD_tup (a b : List D) : eqD (.tup a) (.tup b) = eqDs a b := by simp only [eqD, D.py, PyData.eqv, eqDs]
theorem eqD_lst (a b : List D) : eqD (.lst a) (.lst b) = eqDs a b := by simp only [eqD, D.py, PyData.eqv, eqDs]
theorem eqDs_nil : eqDs [] [] = true := by simp only [eqDs, D.pys, PyData.eqvAll]
theorem eqDs_cons (a b : D) (r s : List D) : eqDs (a :: r) (b :: s) = (eqD a b && eqDs r s) := by simp only [eqDs, D.pys, PyData.eqvAll, eqD]
theorem eqDs_nc (b : D) (s : List D) : eqDs [] (b :: s) = false := by simp only [eqDs, D.pys, PyData.eqvAll]
theorem eqDs_cn (b : D) (s : List D) : eqDs (b :: s) [] = false := by simp only [eqDs, D.pys, PyData.eqvAll]
theorem eqDs_nil_r (a : List D) : eqDs a [] = a.isEmpty := by cases a with
  | nil => exact eqDs_nil
  | cons b r => exact eqDs_cn b r
theorem eqDs_nil_l (a : List D) : eqDs [] a = a.isEmpty := by cases a with
  | nil => exact eqDs_nil
  | cons b r => exact eqDs_nc b r
theorem eqD_si (a : Str) (b : Int) : eqD (.str a) (.int b) = false := by simp only [eqD, D.py, PyData.eqv]
theorem eqD_is (a : Str) (b : Int) : eqD (.int b) (.str a) = false := by simp only [eqD, D.py, PyData.eqv]
theorem eqD_tl (a b : List D) : eqD (.tup a) (.lst b) = false := by simp only [eqD, D.py, PyData.eqv]
theorem eqD_lt (a b : List D) : eqD (.lst a) (.tup b) = false := by simp only [eqD, D.py, PyData.eqv]
/-- a text against anything -/
theorem eqD_x_str (x : D) (b : Str) : eqD x (.str b) = match x with
  | .str a => a == b
  | _ => false := by cases x <;> simp only [eqD, D.py, PyData.eqv]
theorem eqD_str_x (x : D) (b : Str) : eqD (.str b) x = match x with
  | .str a => b == a
  | _ => false := by cases x <;> simp only [eqD, D.py, PyData.eqv]
mutual
theorem eqD_refl : ∀ d : D, d.plain = true → eqD d d = true
  | .non, _ => eqD_non
  | .bl b, _ => by rw [eqD_bl]; simp
  | .int i, _ => by rw [eqD_int]; simp
  | .str x, _ => by rw [eqD_str]; simp
  | .tup xs, h => by rw [eqD_tup]; exact eqDs_refl xs (by simpa [D.plain] using h)
  | .lst xs, h => by rw [eqD_lst]; exact eqDs_refl xs (by simpa [D.plain] using h)
  | .dct _ _, h => by simp [D.plain] at h
  | .adr _, h => by simp [D.plain] at h
  | .ty _, h => by simp [D.plain] at h
theorem eqDs_refl : ∀ ds : List D, D.plains ds = true → eqDs ds ds = true
  | [], _ => eqDs_nil
  | d :: r, h => by
    simp only [D.plains, Bool.and_eq_true] at h
    rw [eqDs_cons, eqD_refl d h.1, eqDs_refl r h.2]; rfl
end
theorem dat_non  : D.dat  .non = true := rfl
theorem dat_bl (b : Bool) : D.dat (.bl b) = true := rfl
theorem dat_int (i : Int) : D.dat (.int i) = true := rfl
theorem dat_str (x : Str) : D.dat (.str x) = true := rfl
theorem dat_tup (xs : List D) : D.dat (.tup xs) = true := rfl
theorem dat_lst (xs : List D) : D.dat (.lst xs) = true := rfl
theorem isInt_non  : D.isInt  .non = false := rfl
theorem isInt_bl (b : Bool) : D.isInt (.bl b) = true := rfl
theorem isInt_int (i : Int) : D.isInt (.int i) = true := rfl
theorem isInt_str (x : Str) : D.isInt (.str x) = false := rfl
theorem isInt_tup (xs : List D) : D.isInt (.tup xs) = false := rfl
theorem isInt_lst (xs : List D) : D.isInt (.lst xs) = false := rfl
theorem isBool_non  : D.isBool  .non = false := rfl
theorem isBool_bl (b : Bool) : D.isBool (.bl b) = true := rfl
theorem isBool_int (i : Int) : D.isBool (.int i) = false := rfl
theorem isBool_str (x : Str) : D.isBool (.str x) = false := rfl
theorem isBool_tup (xs : List D) : D.isBool (.tup xs) = false := rfl
theorem isBool_lst (xs : List D) : D.isBool (.lst xs) = false := rfl
theorem isStr_non  : D.isStr  .non = false := rfl
theorem isStr_bl (b : Bool) : D.isStr (.bl b) = false := rfl
theorem isStr_int (i : Int) : D.isStr (.int i) = false := rfl
theorem isStr_str (x : Str) : D.isStr (.str x) = true := rfl
theorem isStr_tup (xs : List D) : D.isStr (.tup xs) = false := rfl
theorem isStr_lst (xs : List D) : D.isStr (.lst xs) = false := rfl
theorem isTup_non  : D.isTup  .non = false := rfl
theorem isTup_bl (b : Bool) : D.isTup (.bl b) = false := rfl
theorem isTup_int (i : Int) : D.isTup (.int i) = false := rfl
theorem isTup_str (x : Str) : D.isTup (.str x) = false := rfl
theorem isTup_tup (xs : List D) : D.isTup (.tup xs) = true := rfl
theorem isTup_lst (xs : List D) : D.isTup (.lst xs) = false := rfl
theorem isLst_non  : D.isLst  .non = false := rfl
theorem isLst_bl (b : Bool) : D.isLst (.bl b) = false := rfl
theorem isLst_int (i : Int) : D.isLst (.int i) = false := rfl
theorem isLst_str (x : Str) : D.isLst (.str x) = false := rfl
theorem isLst_tup (xs : List D) : D.isLst (.tup xs) = false := rfl
theorem isLst_lst (xs : List D) : D.isLst (.lst xs) = true := rfl
theorem sz_0 : (0 ≤ sizeLine) = True := eq_true (by decide)
theorem sz_1 : (1 ≤ sizeLine) = True := eq_true (by decide)
theorem sz_2 : (2 ≤ sizeLine) = True := eq_true (by decide)
theorem sz_3 : (3 ≤ sizeLine) = True := eq_true (by decide)
theorem sz_4 : (4 ≤ sizeLine) = True := eq_true (by decide)
theorem sz_5 : (5 ≤ sizeLine) = True := eq_true (by decide)
theorem sz_6 : (6 ≤ sizeLine) = True := eq_true (by decide)
theorem sz_7 : (7 ≤ sizeLine) = True := eq_true (by decide)
theorem sz_8 : (8 ≤ sizeLine) = True := eq_true (by decide)
theorem sz_9 : (9 ≤ sizeLine) = True := eq_true (by decide)
theorem sz_10 : (10 ≤ sizeLine) = True := eq_true (by decide)
theorem sz_11 : (11 ≤ sizeLine) = True := eq_true (by decide)
theorem sz_12 : (12 ≤ sizeLine) = True := eq_true (by decide)
/-! ### good data -/
theorem plains_all : ∀ xs : List D, D.plains xs = xs.all D.plain
  | [] => rfl
  | x :: r => by simp only [D.plains, List.all_cons, plains_all r]
theorem deps_mem : ∀ {xs : List D} {x : D}, x ∈ xs → x.dep ≤ D.deps xs
  | y :: r, x, h => by
    rcases List.mem_cons.mp h with rfl | h
    · simp only [D.deps]; omega
    · have := deps_mem h; simp only [D.deps]; omega
theorem deps_le : ∀ {xs : List D} {n : Nat}, (∀ x ∈ xs, x.dep ≤ n) → D.deps xs ≤ n
  | [], _, _ => Nat.zero_le _
  | y :: r, n, h => by
    have h1 := h y (List.mem_cons_self ..)
    have h2 := deps_le (xs := r) fun x hx => h x (List.mem_cons_of_mem _ hx)
    simp only [D.deps]; omega
/-- data of depth at most n -/
def D.gd (n : Nat) (d : D) : Bool := d.plain && decide (d.dep ≤ n)
theorem gd_good {n : Nat} {d : D} (h : d.gd n = true) (hn : n ≤ 60 := by decide) : d.good = true := by
  simp only [D.gd, D.good, Bool.and_eq_true, decide_eq_true_eq] at *
  exact ⟨h.1, by omega⟩
theorem gd_mono {n m : Nat} {d : D} (h : d.gd n = true) (hn : n ≤ m) : d.gd m = true := by
  simp only [D.gd, Bool.and_eq_true, decide_eq_true_eq] at *
  exact ⟨h.1, by omega⟩
theorem gd_tup {n : Nat} {xs : List D} : D.gd (n + 1) (.tup xs) = xs.all (D.gd n) := by
  rw [Bool.eq_iff_iff]
  simp only [D.gd, D.plain, D.dep, Bool.and_eq_true, decide_eq_true_eq, plains_all, List.all_eq_true]
  constructor
  · rintro ⟨h1, h2⟩ x hx
    have := deps_mem hx
    exact ⟨h1 x hx, Nat.le_trans this (Nat.le_of_succ_le_succ (of_decide_eq_true h2))⟩
  · intro h
    refine ⟨fun x hx => (h x hx).1, ?_⟩
    have := deps_le (xs := xs) (n := n) fun x hx => (h x hx).2
    exact decide_eq_true (Nat.succ_le_succ this)
theorem gd_lst {n : Nat} {xs : List D} : D.gd (n + 1) (.lst xs) = xs.all (D.gd n) := by
  have := gd_tup (n := n) (xs := xs)
  simpa [D.gd, D.plain, D.dep] using this
theorem good_tup {xs : List D} (h : D.good (.tup xs) = true) : ∀ x ∈ xs, x.good = true := fun x hx => by
  have h' : D.gd (59 + 1) (.tup xs) = true := h
  rw [gd_tup, List.all_eq_true] at h'
  exact gd_good (h' x hx)
theorem good_lst {xs : List D} (h : D.good (.lst xs) = true) : ∀ x ∈ xs, x.good = true := fun x hx => by
  have h' : D.gd (59 + 1) (.lst xs) = true := h
  rw [gd_lst, List.all_eq_true] at h'
  exact gd_good (h' x hx)
theorem good_dat {d : D} (h : d.good = true) : d.dat = true := by
  cases d <;> first | rfl | simp [D.good, D.plain] at h
theorem good_int (i : Int) : D.good (.int i) = true := rfl
theorem good_bl (i : Bool) : D.good (.bl i) = true := rfl
theorem good_non : D.good .non = true := rfl
theorem good_str {x : Str} (h : PyData.strOk x = true) : D.good (.str x) = true := by simp [D.good, D.plain, D.dep, h]
theorem str_good {x : Str} (h : D.good (.str x) = true) : PyData.strOk x = true := by simpa [D.good, D.plain, D.dep] using h
theorem good_nil : D.good (.tup []) = true := rfl
theorem good_nilL : D.good (.lst []) = true := rfl
theorem good_sub {xs ys : List D} (h : D.good (.tup xs) = true) (hs : ∀ y ∈ ys, y ∈ xs) : D.good (.tup ys) = true := by
  have h' : D.gd (59 + 1) (.tup xs) = true := h
  show D.gd (59 + 1) (.tup ys) = true
  rw [gd_tup, List.all_eq_true] at *
  exact fun y hy => h' y (hs y hy)
/-- slices -/
theorem cut_from (xs : List D) (n : Nat) (h : n ≤ xs.length) : cutD xs (some n) none = xs.drop n := by
  unfold cutD
  rw [HT.sIx_nat, HT.sIx_none, Nat.min_eq_left h]
  exact List.take_of_length_le (by rw [List.length_drop]; exact Nat.le_refl _)
theorem cut_to (xs : List D) (n : Nat) (h : n ≤ xs.length) : cutD xs none (some n) = xs.take n := by
  unfold cutD
  rw [HT.sIx_nat, HT.sIx_none, Nat.min_eq_left h, List.drop_zero, Nat.sub_zero]
theorem cut_toN (xs : List D) (n : Nat) : cutD xs none (some n) = xs.take n := by
  unfold cutD
  rw [HT.sIx_nat, HT.sIx_none, List.drop_zero, Nat.sub_zero]
  by_cases h : n ≤ xs.length
  · rw [Nat.min_eq_left h]
  · rw [Nat.min_eq_right (by omega), List.take_of_length_le (Nat.le_refl _), List.take_of_length_le (by omega)]
theorem cut_fromN (xs : List D) (n : Nat) : cutD xs (some n) none = xs.drop n := by
  by_cases h : n ≤ xs.length
  · exact cut_from xs n h
  · unfold cutD
    rw [HT.sIx_nat, HT.sIx_none, Nat.min_eq_right (by omega), List.drop_of_length_le (Nat.le_refl _), List.drop_of_length_le (by omega)]
    simp
theorem cut_to1 (xs : List D) : cutD xs none (some 1) = xs.take 1 := cut_toN xs 1
theorem cut_to2 (xs : List D) : cutD xs none (some 2) = xs.take 2 := cut_toN xs 2
theorem cut_to3 (xs : List D) : cutD xs none (some 3) = xs.take 3 := cut_toN xs 3
theorem cut_from1 (xs : List D) : cutD xs (some 1) none = xs.drop 1 := cut_fromN xs 1
theorem cut_from2 (xs : List D) : cutD xs (some 2) none = xs.drop 2 := cut_fromN xs 2
theorem cut_from3 (xs : List D) : cutD xs (some 3) none = xs.drop 3 := cut_fromN xs 3
theorem at0 (x : D) (r : List D) : atI (x :: r) 0 = some x := atI_nat (j := 0) rfl
theorem at1 (x y : D) (r : List D) : atI (x :: y :: r) 1 = some y := atI_nat (j := 1) rfl
theorem at2 (x y z : D) (r : List D) : atI (x :: y :: z :: r) 2 = some z := atI_nat (j := 2) rfl
theorem at3 (x y z u : D) (r : List D) : atI (x :: y :: z :: u :: r) 3 = some u := atI_nat (j := 3) rfl
theorem at4 (x y z u t : D) (r : List D) : atI (x :: y :: z :: u :: t :: r) 4 = some t := atI_nat (j := 4) rfl
/-- a loop that builds a list, element by element: the elements' promise gives f -/
theorem lcW_map {g : PTG} {te : PTE} {vs : List Nat} {Q : PQ} {f : D → D} {S : Sta} : ∀ (xs acc : List D), (∀ x ∈ xs, ∀ Q' : PQ, (∀ S', wipS S' vs = S → Q' (f x) S') → g x S fun S2 => te S2 Q' noX) → acc.length + xs.length ≤ sizeLine → Q (.lst (acc ++ xs.map f)) S → lcW g pYes te vs Q xs acc S
  | [], acc, _, _, q => by
    show Q (.lst acc) S
    simpa using q
  | x :: r, acc, h, hz, q => by
    simp only [List.length_cons] at hz
    have mono : ∀ {t : PTE}, True := trivial
    refine h x (List.mem_cons_self ..) (fun y S4 => acc.length < sizeLine ∧ lcW g pYes te vs Q r (acc ++ [y]) (wipS S4 vs)) fun S' e => ⟨by omega, ?_⟩
    rw [e]
    exact lcW_map r (acc ++ [f x]) (fun y hy => h y (List.mem_cons_of_mem _ hy)) (by rw [List.length_append]; simp only [List.length_singleton]; omega) (by simpa using q)
/-- nothing is promised -/
theorem call_none {P : Program} {w : World} {K : PySem.W.Frag} {mg : Str → Option Value} {base : Heap} {x : Str} {ps : List Str} {st : Stmt} {k : Nat} (T : TopD K mg x ps st) : CallF P w K mg base x ps.length k (fun _ _ _ _ => False) := by
  obtain ⟨f, fd, F, hm, hb⟩ := T.ex
  refine ⟨f, fd, ps, ⟨fun vs H Q E h => ?_, fun A outer s H args us vs Q E _ _ _ _ h => ?_⟩, hm, F.kp, hb⟩
  · obtain ⟨_, _, _, _, h, _⟩ := h; exact h
  · obtain ⟨_, _, _, _, _, _, _, h, _⟩ := h; exact h.elim
theorem wipS_mk (ρ : List Slot) (W : Addr → Option Own) (vs : List Nat) : wipS ⟨ρ, W⟩ vs = ⟨vs.foldr (fun v ρ => ρ.set v .emp) ρ, W⟩ := rfl
/-! ### readings of containers: only what is known is unfolded -/
def cGet : Option Slot → Con
  | some (.own o) => .own o
  | some (.val d) => .val d
  | _ => .bad
theorem cGet_own (o : Own) : cGet (some (.own o)) = .own o := rfl
theorem cGet_val (d : D) : cGet (some (.val d)) = .val d := rfl
theorem con_slot (ρ : List Slot) (W : Addr → Option Own) (i : Nat) : con ⟨ρ, W⟩ (.slot i) = cGet ρ[i]? := by
  unfold con cGet
  rfl
def vGet (o : Option Slot) (S : Sta) (i : Nat) (Q : PQ) : Prop := match o with
  | some (.val d) => Q d S
  | some (.own (.lst xs)) => Q (.lst xs) ⟨S.ρ.set i (.val (.lst xs)), S.W⟩
  | some (.own (.dct ks vs)) => Q (.dct ks vs) ⟨S.ρ.set i (.val (.dct ks vs)), S.W⟩
  | _ => False
theorem pVar_mk (i : Nat) (ρ : List Slot) (W : Addr → Option Own) (Q : PQ) (E : PX) : pVar i ⟨ρ, W⟩ Q E = vGet ρ[i]? ⟨ρ, W⟩ i Q := rfl
theorem vGet_val (d : D) (S : Sta) (i : Nat) (Q : PQ) : vGet (some (.val d)) S i Q = Q d S := rfl
theorem vGet_ownL (xs : List D) (ρ : List Slot) (W : Addr → Option Own) (i : Nat) (Q : PQ) : vGet (some (.own (.lst xs))) ⟨ρ, W⟩ i Q = Q (.lst xs) ⟨ρ.set i (.val (.lst xs)), W⟩ := rfl
theorem vGet_ownD (ks vs : List D) (ρ : List Slot) (W : Addr → Option Own) (i : Nat) (Q : PQ) : vGet (some (.own (.dct ks vs))) ⟨ρ, W⟩ i Q = Q (.dct ks vs) ⟨ρ.set i (.val (.dct ks vs)), W⟩ := rfl
def kGet (o : Option Slot) (S : Sta) (i : Nat) (Q : Pk → Sta → Prop) : Prop := match o with
  | some (.val d) => Q (.val d) S
  | some (.own _) => Q (.slot i) S
  | _ => False
theorem pkVar_mk (i : Nat) (ρ : List Slot) (W : Addr → Option Own) (Q : Pk → Sta → Prop) (E : PX) : pkVar i ⟨ρ, W⟩ Q E = kGet ρ[i]? ⟨ρ, W⟩ i Q := rfl
theorem kGet_val (d : D) (S : Sta) (i : Nat) (Q : Pk → Sta → Prop) : kGet (some (.val d)) S i Q = Q (.val d) S := rfl
theorem kGet_own (o : Own) (S : Sta) (i : Nat) (Q : Pk → Sta → Prop) : kGet (some (.own o)) S i Q = Q (.slot i) S := rfl
def kSet (i : Nat) (P : PEnds) : PQ := fun d S1 => P.nx ⟨S1.ρ.set i (.val d), S1.W⟩
theorem pSet_eq (i : Nat) (te : PTE) (P : PEnds) (S : Sta) : pSet i te P S = te S (kSet i P) P.ex := rfl
theorem kSet_mk (i : Nat) (P : PEnds) (d : D) (ρ : List Slot) (W : Addr → Option Own) : kSet i P d ⟨ρ, W⟩ = P.nx ⟨ρ.set i (.val d), W⟩ := rfl
theorem con_tup (S : Sta) (xs : List D) : con S (.val (.tup xs)) = .val (.tup xs) := rfl
theorem con_lst (S : Sta) (xs : List D) : con S (.val (.lst xs)) = .val (.lst xs) := rfl
theorem con_dct (S : Sta) (xs ys : List D) : con S (.val (.dct xs ys)) = .val (.dct xs ys) := rfl
theorem con_str (S : Sta) (x : Str) : con S (.val (.str x)) = .val (.str x) := rfl
theorem con_own {ρ : List Slot} {W : Addr → Option Own} {a : Addr} {o : Own} (h : W a = some o) : con ⟨ρ, W⟩ (.val (.adr a)) = .own o := by simp only [con, h]
theorem con_updW (ρ : List Slot) (W : Addr → Option Own) (a : Addr) (o : Own) : con ⟨ρ, updW W a o⟩ (.val (.adr a)) = .own o := con_own (if_pos rfl)
theorem ixC_tup (xs : List D) (y : D) (Q : D → Prop) : ixC (.val (.tup xs)) y Q = oIx (.tup xs) y Q := rfl
theorem ixC_lst (xs : List D) (y : D) (Q : D → Prop) : ixC (.val (.lst xs)) y Q = oIx (.lst xs) y Q := rfl
theorem ixC_str (x : Str) (y : D) (Q : D → Prop) : ixC (.val (.str x)) y Q = oIx (.str x) y Q := rfl
theorem ixC_dct (ks vs : List D) (y : D) (Q : D → Prop) : ixC (.val (.dct ks vs)) y Q = ((keyK y).isSome = true ∧ ∃ d, dget ks vs y = some d ∧ Q d) := rfl
theorem ixC_ownL (xs : List D) (y : D) (Q : D → Prop) : ixC (.own (.lst xs)) y Q = ∃ i d, y = .int i ∧ atI xs i = some d ∧ Q d := rfl
theorem ixC_ownD (ks vs : List D) (y : D) (Q : D → Prop) : ixC (.own (.dct ks vs)) y Q = ((keyK y).isSome = true ∧ ∃ d, dget ks vs y = some d ∧ Q d) := rfl
theorem oIx_tup (xs : List D) (i : Int) (Q : D → Prop) : oIx (.tup xs) (.int i) Q = ∃ d, atI xs i = some d ∧ Q d := rfl
theorem oIx_lst (xs : List D) (i : Int) (Q : D → Prop) : oIx (.lst xs) (.int i) Q = ∃ d, atI xs i = some d ∧ Q d := rfl
theorem oIx_str (z : Str) (i : Int) (Q : D → Prop) : oIx (.str z) (.int i) Q = (z.length ≤ sizeLine ∧ ∃ c, atI z.cps.toList i = some c ∧ Q (.str ⟨#[c]⟩)) := rfl
theorem lenC_tup (xs : List D) (Q : D → Prop) : lenC (.val (.tup xs)) Q = Q (.int xs.length) := rfl
theorem lenC_lst (xs : List D) (Q : D → Prop) : lenC (.val (.lst xs)) Q = Q (.int xs.length) := rfl
theorem lenC_str (x : Str) (Q : D → Prop) : lenC (.val (.str x)) Q = (x.length ≤ sizeLine ∧ Q (.int x.length)) := rfl
theorem lenC_ownL (xs : List D) (Q : D → Prop) : lenC (.own (.lst xs)) Q = Q (.int xs.length) := rfl
theorem lenC_ownD (xs ys : List D) (Q : D → Prop) : lenC (.own (.dct xs ys)) Q = Q (.int xs.length) := rfl
theorem setC_ownL (xs : List D) (i d : D) (Q : Own → Prop) : setC (.own (.lst xs)) i d Q = ∃ k j, i = .int k ∧ ixN xs.length k = some j ∧ Q (.lst (xs.set j d)) := rfl
theorem setC_ownD (ks vs : List D) (i d : D) (Q : Own → Prop) : setC (.own (.dct ks vs)) i d Q = ((keyK i).isSome = true ∧ ks.length < sizeLine ∧ Q (.dct (dput ks vs i d).1 (dput ks vs i d).2)) := rfl
theorem putC_slot (ρ : List Slot) (W : Addr → Option Own) (i : Nat) (o : Own) : putC ⟨ρ, W⟩ (.slot i) o = ⟨ρ.set i (.own o), W⟩ := rfl
theorem putC_adr (ρ : List Slot) (W : Addr → Option Own) (a : Addr) (o : Own) : putC ⟨ρ, W⟩ (.val (.adr a)) o = ⟨ρ, updW W a o⟩ := rfl
theorem ixN_nat {n : Nat} {j : Nat} (h : j < n) : ixN n (j : Int) = some j := by
  unfold ixN
  simp [h]
theorem Pk_val_inj {x y : D} : (Pk.val x = Pk.val y) = (x = y) := by simp
theorem Con_own_inj {x y : Own} : (Con.own x = Con.own y) = (x = y) := by simp
theorem Own_lst_inj {x y : List D} : (Own.lst x = Own.lst y) = (x = y) := by simp
theorem updW_upd (W : Addr → Option Own) (a : Addr) (o u : Own) : updW (updW W a o) a u = updW W a u := funext fun b => by
  unfold updW; split <;> rfl
theorem updW_self (W : Addr → Option Own) (a : Addr) (o : Own) : updW W a o a = some o := if_pos rfl
theorem itD_lst (xs : List D) (Q : List D → Prop) : itD (.lst xs) Q = Q xs := rfl
theorem itD_tup (xs : List D) (Q : List D → Prop) : itD (.tup xs) Q = Q xs := rfl
theorem oInt_i (C : Int → Int → Prop) (g : Int → Int → Int) (i j : Int) (Q : D → Prop) : oInt C g (.int i) (.int j) Q = (C i j ∧ Q (.int (g i j))) := rfl
theorem oCmp_i (g : Int → Int → Bool) (i j : Int) (Q : D → Prop) : oCmp g (.int i) (.int j) Q = Q (.bl (g i j)) := rfl
theorem oAdd_i (i j : Int) (Q : D → Prop) : oAdd (.int i) (.int j) Q = Q (.int (i + j)) := rfl
theorem oAdd_s (x y : Str) (Q : D → Prop) : oAdd (.str x) (.str y) Q = (x.length + y.length ≤ sizeLine ∧ Q (.str (x ++ y))) := rfl
theorem oAdd_t (xs ys : List D) (Q : D → Prop) : oAdd (.tup xs) (.tup ys) Q = (xs.length + ys.length ≤ sizeLine ∧ Q (.tup (xs ++ ys))) := rfl
theorem oAdd_l (xs ys : List D) (Q : D → Prop) : oAdd (.lst xs) (.lst ys) Q = (xs.length + ys.length ≤ sizeLine ∧ Q (.lst (xs ++ ys))) := rfl
theorem oNeg_i (i : Int) (Q : D → Prop) : oNeg (.int i) Q = Q (.int (-i)) := rfl
theorem o1I_i (g : Int → Int) (i : Int) (Q : D → Prop) : o1I g [.int i] Q = Q (.int (g i)) := rfl
theorem o2I_i (g : Int → Int → Int) (i j : Int) (Q : D → Prop) : o2I g [.int i, .int j] Q = Q (.int (g i j)) := rfl
theorem oSl_t (xs : List D) (lo hi : Option Int) (Q : D → Prop) : oSl (.tup xs) lo hi Q = Q (.tup (cutD xs lo hi)) := rfl
theorem oSl_l (xs : List D) (lo hi : Option Int) (Q : D → Prop) : oSl (.lst xs) lo hi Q = Q (.lst (cutD xs lo hi)) := rfl
theorem oList_t (xs : List D) (Q : D → Prop) : oList [.tup xs] Q = Q (.lst xs) := rfl
theorem oList_l (xs : List D) (Q : D → Prop) : oList [.lst xs] Q = Q (.lst xs) := rfl
theorem oTuple_t (xs : List D) (Q : D → Prop) : oTuple [.tup xs] Q = Q (.tup xs) := rfl
theorem oTuple_l (xs : List D) (Q : D → Prop) : oTuple [.lst xs] Q = Q (.tup xs) := rfl
theorem oIn_t (n : Bool) (x : D) (ys : List D) (Q : D → Prop) : oIn n x (.tup ys) Q = (x.good = true ∧ D.good (.tup ys) = true ∧ Q (.bl (if n then !(ys.any fun z => eqD z x) else ys.any fun z => eqD z x))) := rfl
theorem oIn_l (n : Bool) (x : D) (ys : List D) (Q : D → Prop) : oIn n x (.lst ys) Q = (x.good = true ∧ D.good (.lst ys) = true ∧ Q (.bl (if n then !(ys.any fun z => eqD z x) else ys.any fun z => eqD z x))) := rfl
theorem oIsN_n (n : Bool) (x : D) (Q : D → Prop) : oIsN n x .non Q = Q (.bl (if n then !x.isN else x.isN)) := rfl
theorem ixC_ownLi (xs : List D) (i : Int) (Q : D → Prop) : ixC (.own (.lst xs)) (.int i) Q = ∃ d, atI xs i = some d ∧ Q d := by
  apply propext
  constructor
  · rintro ⟨i, d, h, r⟩; cases h; exact ⟨d, r⟩
  · rintro ⟨d, r⟩; exact ⟨i, d, rfl, r⟩
theorem setC_ownLi (xs : List D) (i : Int) (d : D) (Q : Own → Prop) : setC (.own (.lst xs)) (.int i) d Q = ∃ j, ixN xs.length i = some j ∧ Q (.lst (xs.set j d)) := by
  apply propext
  constructor
  · rintro ⟨i, j, h, r⟩; cases h; exact ⟨j, r⟩
  · rintro ⟨j, r⟩; exact ⟨i, j, rfl, r⟩
theorem ixN20 : ixN 2 0 = some 0 := rfl
theorem ixN21 : ixN 2 1 = some 1 := rfl
theorem atI_lt {xs : List D} {z : Int} (h0 : 0 ≤ z) (h1 : z < xs.length) : ∃ x, x ∈ xs ∧ atI xs z = some x := by
  obtain ⟨j, rfl⟩ := Int.eq_ofNat_of_zero_le h0
  have h : j < xs.length := by omega
  exact ⟨xs[j], List.getElem_mem h, atI_nat (List.getElem?_eq_getElem h)⟩
def kSetO (i : Nat) (P : PEnds) : Own → Sta → Prop := fun o S1 => P.nx ⟨S1.ρ.set i (.own o), S1.W⟩
/-! ### slots by their number: no other part of a goal is looked at -/
section
variable {P : PEnds} {Q : PQ} {E : PX} {W : Addr → Option Own} {r : List Slot} {d y : D} {o u : Own} {xs ks vs : List D} {s0 s1 s2 s3 s4 s5 s6 s7 s8 s9 s10 s11 s12 s13 s14 s15 s16 s17 s18 s19 s20 s21 s22 s23 : Slot} {G : D → Prop} {U : Pk → Sta → Prop} {V : Own → Prop} {T : Sta → Prop}
theorem pVarV0 : pVar 0 ⟨.val d :: r, W⟩ Q E = Q d ⟨.val d :: r, W⟩ := rfl
theorem pVarL0 : pVar 0 ⟨.own (.lst xs) :: r, W⟩ Q E = Q (.lst xs) ⟨.val (.lst xs) :: r, W⟩ := rfl
theorem pVarD0 : pVar 0 ⟨.own (.dct ks vs) :: r, W⟩ Q E = Q (.dct ks vs) ⟨.val (.dct ks vs) :: r, W⟩ := rfl
theorem pkVarV0 : pkVar 0 ⟨.val d :: r, W⟩ U E = U (.val d) ⟨.val d :: r, W⟩ := rfl
theorem pkVarO0 : pkVar 0 ⟨.own o :: r, W⟩ U E = U (.slot 0) ⟨.own o :: r, W⟩ := rfl
theorem kSetN0 : kSet 0 P d ⟨s0 :: r, W⟩ = P.nx ⟨.val d :: r, W⟩ := rfl
theorem kSetO_N0 : kSetO 0 P o ⟨s0 :: r, W⟩ = P.nx ⟨.own o :: r, W⟩ := rfl
theorem pgNameN0 : pgName 0 d ⟨s0 :: r, W⟩ T = T ⟨.val d :: r, W⟩ := rfl
theorem ixS0 : ixC (con ⟨.own o :: r, W⟩ (.slot 0)) y G = ixC (.own o) y G := rfl
theorem lenS0 : lenC (con ⟨.own o :: r, W⟩ (.slot 0)) G = lenC (.own o) G := rfl
theorem setS0 : setC (con ⟨.own o :: r, W⟩ (.slot 0)) y d V = setC (.own o) y d V := rfl
theorem conS0 : con ⟨.own o :: r, W⟩ (.slot 0) = .own o := rfl
theorem putS0 : putC ⟨s0 :: r, W⟩ (.slot 0) u = ⟨.own u :: r, W⟩ := rfl
theorem pVarV1 : pVar 1 ⟨s0 :: .val d :: r, W⟩ Q E = Q d ⟨s0 :: .val d :: r, W⟩ := rfl
theorem pVarL1 : pVar 1 ⟨s0 :: .own (.lst xs) :: r, W⟩ Q E = Q (.lst xs) ⟨s0 :: .val (.lst xs) :: r, W⟩ := rfl
theorem pVarD1 : pVar 1 ⟨s0 :: .own (.dct ks vs) :: r, W⟩ Q E = Q (.dct ks vs) ⟨s0 :: .val (.dct ks vs) :: r, W⟩ := rfl
theorem pkVarV1 : pkVar 1 ⟨s0 :: .val d :: r, W⟩ U E = U (.val d) ⟨s0 :: .val d :: r, W⟩ := rfl
theorem pkVarO1 : pkVar 1 ⟨s0 :: .own o :: r, W⟩ U E = U (.slot 1) ⟨s0 :: .own o :: r, W⟩ := rfl
theorem kSetN1 : kSet 1 P d ⟨s0 :: s1 :: r, W⟩ = P.nx ⟨s0 :: .val d :: r, W⟩ := rfl
theorem kSetO_N1 : kSetO 1 P o ⟨s0 :: s1 :: r, W⟩ = P.nx ⟨s0 :: .own o :: r, W⟩ := rfl
theorem pgNameN1 : pgName 1 d ⟨s0 :: s1 :: r, W⟩ T = T ⟨s0 :: .val d :: r, W⟩ := rfl
theorem ixS1 : ixC (con ⟨s0 :: .own o :: r, W⟩ (.slot 1)) y G = ixC (.own o) y G := rfl
theorem lenS1 : lenC (con ⟨s0 :: .own o :: r, W⟩ (.slot 1)) G = lenC (.own o) G := rfl
theorem setS1 : setC (con ⟨s0 :: .own o :: r, W⟩ (.slot 1)) y d V = setC (.own o) y d V := rfl
theorem conS1 : con ⟨s0 :: .own o :: r, W⟩ (.slot 1) = .own o := rfl
theorem putS1 : putC ⟨s0 :: s1 :: r, W⟩ (.slot 1) u = ⟨s0 :: .own u :: r, W⟩ := rfl
theorem pVarV2 : pVar 2 ⟨s0 :: s1 :: .val d :: r, W⟩ Q E = Q d ⟨s0 :: s1 :: .val d :: r, W⟩ := rfl
theorem pVarL2 : pVar 2 ⟨s0 :: s1 :: .own (.lst xs) :: r, W⟩ Q E = Q (.lst xs) ⟨s0 :: s1 :: .val (.lst xs) :: r, W⟩ := rfl
theorem pVarD2 : pVar 2 ⟨s0 :: s1 :: .own (.dct ks vs) :: r, W⟩ Q E = Q (.dct ks vs) ⟨s0 :: s1 :: .val (.dct ks vs) :: r, W⟩ := rfl
theorem pkVarV2 : pkVar 2 ⟨s0 :: s1 :: .val d :: r, W⟩ U E = U (.val d) ⟨s0 :: s1 :: .val d :: r, W⟩ := rfl
theorem pkVarO2 : pkVar 2 ⟨s0 :: s1 :: .own o :: r, W⟩ U E = U (.slot 2) ⟨s0 :: s1 :: .own o :: r, W⟩ := rfl
theorem kSetN2 : kSet 2 P d ⟨s0 :: s1 :: s2 :: r, W⟩ = P.nx ⟨s0 :: s1 :: .val d :: r, W⟩ := rfl
theorem kSetO_N2 : kSetO 2 P o ⟨s0 :: s1 :: s2 :: r, W⟩ = P.nx ⟨s0 :: s1 :: .own o :: r, W⟩ := rfl
theorem pgNameN2 : pgName 2 d ⟨s0 :: s1 :: s2 :: r, W⟩ T = T ⟨s0 :: s1 :: .val d :: r, W⟩ := rfl
theorem ixS2 : ixC (con ⟨s0 :: s1 :: .own o :: r, W⟩ (.slot 2)) y G = ixC (.own o) y G := rfl
theorem lenS2 : lenC (con ⟨s0 :: s1 :: .own o :: r, W⟩ (.slot 2)) G = lenC (.own o) G := rfl
theorem setS2 : setC (con ⟨s0 :: s1 :: .own o :: r, W⟩ (.slot 2)) y d V = setC (.own o) y d V := rfl
theorem conS2 : con ⟨s0 :: s1 :: .own o :: r, W⟩ (.slot 2) = .own o := rfl
theorem putS2 : putC ⟨s0 :: s1 :: s2 :: r, W⟩ (.slot 2) u = ⟨s0 :: s1 :: .own u :: r, W⟩ := rfl
theorem pVarV3 : pVar 3 ⟨s0 :: s1 :: s2 :: .val d :: r, W⟩ Q E = Q d ⟨s0 :: s1 :: s2 :: .val d :: r, W⟩ := rfl
theorem pVarL3 : pVar 3 ⟨s0 :: s1 :: s2 :: .own (.lst xs) :: r, W⟩ Q E = Q (.lst xs) ⟨s0 :: s1 :: s2 :: .val (.lst xs) :: r, W⟩ := rfl
theorem pVarD3 : pVar 3 ⟨s0 :: s1 :: s2 :: .own (.dct ks vs) :: r, W⟩ Q E = Q (.dct ks vs) ⟨s0 :: s1 :: s2 :: .val (.dct ks vs) :: r, W⟩ := rfl
theorem pkVarV3 : pkVar 3 ⟨s0 :: s1 :: s2 :: .val d :: r, W⟩ U E = U (.val d) ⟨s0 :: s1 :: s2 :: .val d :: r, W⟩ := rfl
theorem pkVarO3 : pkVar 3 ⟨s0 :: s1 :: s2 :: .own o :: r, W⟩ U E = U (.slot 3) ⟨s0 :: s1 :: s2 :: .own o :: r, W⟩ := rfl
theorem kSetN3 : kSet 3 P d ⟨s0 :: s1 :: s2 :: s3 :: r, W⟩ = P.nx ⟨s0 :: s1 :: s2 :: .val d :: r, W⟩ := rfl
theorem kSetO_N3 : kSetO 3 P o ⟨s0 :: s1 :: s2 :: s3 :: r, W⟩ = P.nx ⟨s0 :: s1 :: s2 :: .own o :: r, W⟩ := rfl
theorem pgNameN3 : pgName 3 d ⟨s0 :: s1 :: s2 :: s3 :: r, W⟩ T = T ⟨s0 :: s1 :: s2 :: .val d :: r, W⟩ := rfl
theorem ixS3 : ixC (con ⟨s0 :: s1 :: s2 :: .own o :: r, W⟩ (.slot 3)) y G = ixC (.own o) y G := rfl
theorem lenS3 : lenC (con ⟨s0 :: s1 :: s2 :: .own o :: r, W⟩ (.slot 3)) G = lenC (.own o) G := rfl
theorem setS3 : setC (con ⟨s0 :: s1 :: s2 :: .own o :: r, W⟩ (.slot 3)) y d V = setC (.own o) y d V := rfl
theorem conS3 : con ⟨s0 :: s1 :: s2 :: .own o :: r, W⟩ (.slot 3) = .own o := rfl
theorem putS3 : putC ⟨s0 :: s1 :: s2 :: s3 :: r, W⟩ (.slot 3) u = ⟨s0 :: s1 :: s2 :: .own u :: r, W⟩ := rfl
theorem pVarV4 : pVar 4 ⟨s0 :: s1 :: s2 :: s3 :: .val d :: r, W⟩ Q E = Q d ⟨s0 :: s1 :: s2 :: s3 :: .val d :: r, W⟩ := rfl
theorem pVarL4 : pVar 4 ⟨s0 :: s1 :: s2 :: s3 :: .own (.lst xs) :: r, W⟩ Q E = Q (.lst xs) ⟨s0 :: s1 :: s2 :: s3 :: .val (.lst xs) :: r, W⟩ := rfl
theorem pVarD4 : pVar 4 ⟨s0 :: s1 :: s2 :: s3 :: .own (.dct ks vs) :: r, W⟩ Q E = Q (.dct ks vs) ⟨s0 :: s1 :: s2 :: s3 :: .val (.dct ks vs) :: r, W⟩ := rfl
theorem pkVarV4 : pkVar 4 ⟨s0 :: s1 :: s2 :: s3 :: .val d :: r, W⟩ U E = U (.val d) ⟨s0 :: s1 :: s2 :: s3 :: .val d :: r, W⟩ := rfl
theorem pkVarO4 : pkVar 4 ⟨s0 :: s1 :: s2 :: s3 :: .own o :: r, W⟩ U E = U (.slot 4) ⟨s0 :: s1 :: s2 :: s3 :: .own o :: r, W⟩ := rfl
theorem kSetN4 : kSet 4 P d ⟨s0 :: s1 :: s2 :: s3 :: s4 :: r, W⟩ = P.nx ⟨s0 :: s1 :: s2 :: s3 :: .val d :: r, W⟩ := rfl
theorem kSetO_N4 : kSetO 4 P o ⟨s0 :: s1 :: s2 :: s3 :: s4 :: r, W⟩ = P.nx ⟨s0 :: s1 :: s2 :: s3 :: .own o :: r, W⟩ := rfl
theorem pgNameN4 : pgName 4 d ⟨s0 :: s1 :: s2 :: s3 :: s4 :: r, W⟩ T = T ⟨s0 :: s1 :: s2 :: s3 :: .val d :: r, W⟩ := rfl
theorem ixS4 : ixC (con ⟨s0 :: s1 :: s2 :: s3 :: .own o :: r, W⟩ (.slot 4)) y G = ixC (.own o) y G := rfl
theorem lenS4 : lenC (con ⟨s0 :: s1 :: s2 :: s3 :: .own o :: r, W⟩ (.slot 4)) G = lenC (.own o) G := rfl
theorem setS4 : setC (con ⟨s0 :: s1 :: s2 :: s3 :: .own o :: r, W⟩ (.slot 4)) y d V = setC (.own o) y d V := rfl
theorem conS4 : con ⟨s0 :: s1 :: s2 :: s3 :: .own o :: r, W⟩ (.slot 4) = .own o := rfl
theorem putS4 : putC ⟨s0 :: s1 :: s2 :: s3 :: s4 :: r, W⟩ (.slot 4) u = ⟨s0 :: s1 :: s2 :: s3 :: .own u :: r, W⟩ := rfl
theorem pVarV5 : pVar 5 ⟨s0 :: s1 :: s2 :: s3 :: s4 :: .val d :: r, W⟩ Q E = Q d ⟨s0 :: s1 :: s2 :: s3 :: s4 :: .val d :: r, W⟩ := rfl
theorem pVarL5 : pVar 5 ⟨s0 :: s1 :: s2 :: s3 :: s4 :: .own (.lst xs) :: r, W⟩ Q E = Q (.lst xs) ⟨s0 :: s1 :: s2 :: s3 :: s4 :: .val (.lst xs) :: r, W⟩ := rfl
theorem pVarD5 : pVar 5 ⟨s0 :: s1 :: s2 :: s3 :: s4 :: .own (.dct ks vs) :: r, W⟩ Q E = Q (.dct ks vs) ⟨s0 :: s1 :: s2 :: s3 :: s4 :: .val (.dct ks vs) :: r, W⟩ := rfl
theorem pkVarV5 : pkVar 5 ⟨s0 :: s1 :: s2 :: s3 :: s4 :: .val d :: r, W⟩ U E = U (.val d) ⟨s0 :: s1 :: s2 :: s3 :: s4 :: .val d :: r, W⟩ := rfl
theorem pkVarO5 : pkVar 5 ⟨s0 :: s1 :: s2 :: s3 :: s4 :: .own o :: r, W⟩ U E = U (.slot 5) ⟨s0 :: s1 :: s2 :: s3 :: s4 :: .own o :: r, W⟩ := rfl
theorem kSetN5 : kSet 5 P d ⟨s0 :: s1 :: s2 :: s3 :: s4 :: s5 :: r, W⟩ = P.nx ⟨s0 :: s1 :: s2 :: s3 :: s4 :: .val d :: r, W⟩ := rfl
theorem kSetO_N5 : kSetO 5 P o ⟨s0 :: s1 :: s2 :: s3 :: s4 :: s5 :: r, W⟩ = P.nx ⟨s0 :: s1 :: s2 :: s3 :: s4 :: .own o :: r, W⟩ := rfl
theorem pgNameN5 : pgName 5 d ⟨s0 :: s1 :: s2 :: s3 :: s4 :: s5 :: r, W⟩ T = T ⟨s0 :: s1 :: s2 :: s3 :: s4 :: .val d :: r, W⟩ := rfl
theorem ixS5 : ixC (con ⟨s0 :: s1 :: s2 :: s3 :: s4 :: .own o :: r, W⟩ (.slot 5)) y G = ixC (.own o) y G := rfl
theorem lenS5 : lenC (con ⟨s0 :: s1 :: s2 :: s3 :: s4 :: .own o :: r, W⟩ (.slot 5)) G = lenC (.own o) G := rfl
theorem setS5 : setC (con ⟨s0 :: s1 :: s2 :: s3 :: s4 :: .own o :: r, W⟩ (.slot 5)) y d V = setC (.own o) y d V := rfl
theorem conS5 : con ⟨s0 :: s1 :: s2 :: s3 :: s4 :: .own o :: r, W⟩ (.slot 5) = .own o := rfl
theorem putS5 : putC ⟨s0 :: s1 :: s2 :: s3 :: s4 :: s5 :: r, W⟩ (.slot 5) u = ⟨s0 :: s1 :: s2 :: s3 :: s4 :: .own u :: r, W⟩ := rfl
theorem pVarV6 : pVar 6 ⟨s0 :: s1 :: s2 :: s3 :: s4 :: s5 :: .val d :: r, W⟩ Q E = Q d ⟨s0 :: s1 :: s2 :: s3 :: s4 :: s5 :: .val d :: r, W⟩ := rfl
theorem pVarL6 : pVar 6 ⟨s0 :: s1 :: s2 :: s3 :: s4 :: s5 :: .own (.lst xs) :: r, W⟩ Q E = Q (.lst xs) ⟨s0 :: s1 :: s2 :: s3 :: s4 :: s5 :: .val (.lst xs) :: r, W⟩ := rfl
theorem pVarD6 : pVar 6 ⟨s0 :: s1 :: s2 :: s3 :: s4 :: s5 :: .own (.dct ks vs) :: r, W⟩ Q E = Q (.dct ks vs) ⟨s0 :: s1 :: s2 :: s3 :: s4 :: s5 :: .val (.dct ks vs) :: r, W⟩ := rfl
theorem pkVarV6 : pkVar 6 ⟨s0 :: s1 :: s2 :: s3 :: s4 :: s5 :: .val d :: r, W⟩ U E = U (.val d) ⟨s0 :: s1 :: s2 :: s3 :: s4 :: s5 :: .val d :: r, W⟩ := rfl
theorem pkVarO6 : pkVar 6 ⟨s0 :: s1 :: s2 :: s3 :: s4 :: s5 :: .own o :: r, W⟩ U E = U (.slot 6) ⟨s0 :: s1 :: s2 :: s3 :: s4 :: s5 :: .own o :: r, W⟩ := rfl
theorem kSetN6 : kSet 6 P d ⟨s0 :: s1 :: s2 :: s3 :: s4 :: s5 :: s6 :: r, W⟩ = P.nx ⟨s0 :: s1 :: s2 :: s3 :: s4 :: s5 :: .val d :: r, W⟩ := rfl
theorem kSetO_N6 : kSetO 6 P o ⟨s0 :: s1 :: s2 :: s3 :: s4 :: s5 :: s6 :: r, W⟩ = P.nx ⟨s0 :: s1 :: s2 :: s3 :: s4 :: s5 :: .own o :: r, W⟩ := rfl
theorem pgNameN6 : pgName 6 d ⟨s0 :: s1 :: s2 :: s3 :: s4 :: s5 :: s6 :: r, W⟩ T = T ⟨s0 :: s1 :: s2 :: s3 :: s4 :: s5 :: .val d :: r, W⟩ := rfl
theorem ixS6 : ixC (con ⟨s0 :: s1 :: s2 :: s3 :: s4 :: s5 :: .own o :: r, W⟩ (.slot 6)) y G = ixC (.own o) y G := rfl
theorem lenS6 : lenC (con ⟨s0 :: s1 :: s2 :: s3 :: s4 :: s5 :: .own o :: r, W⟩ (.slot 6)) G = lenC (.own o) G := rfl
theorem setS6 : setC (con ⟨s0 :: s1 :: s2 :: s3 :: s4 :: s5 :: .own o :: r, W⟩ (.slot 6)) y d V = setC (.own o) y d V := rfl
theorem conS6 : con ⟨s0 :: s1 :: s2 :: s3 :: s4 :: s5 :: .own o :: r, W⟩ (.slot 6) = .own o := rfl
theorem putS6 : putC ⟨s0 :: s1 :: s2 :: s3 :: s4 :: s5 :: s6 :: r, W⟩ (.slot 6) u = ⟨s0 :: s1 :: s2 :: s3 :: s4 :: s5 :: .own u :: r, W⟩ := rfl
theorem pVarV7 : pVar 7 ⟨s0 :: s1 :: s2 :: s3 :: s4 :: s5 :: s6 :: .val d :: r, W⟩ Q E = Q d ⟨s0 :: s1 :: s2 :: s3 :: s4 :: s5 :: s6 :: .val d :: r, W⟩ := rfl
theorem pVarL7 : pVar 7 ⟨s0 :: s1 :: s2 :: s3 :: s4 :: s5 :: s6 :: .own (.lst xs) :: r, W⟩ Q E = Q (.lst xs) ⟨s0 :: s1 :: s2 :: s3 :: s4 :: s5 :: s6 :: .val (.lst xs) :: r, W⟩ := rfl
theorem pVarD7 : pVar 7 ⟨s0 :: s1 :: s2 :: s3 :: s4 :: s5 :: s6 :: .own (.dct ks vs) :: r, W⟩ Q E = Q (.dct ks vs) ⟨s0 :: s1 :: s2 :: s3 :: s4 :: s5 :: s6 :: .val (.dct ks vs) :: r, W⟩ := rfl
theorem pkVarV7 : pkVar 7 ⟨s0 :: s1 :: s2 :: s3 :: s4 :: s5 :: s6 :: .val d :: r, W⟩ U E = U (.val d) ⟨s0 :: s1 :: s2 :: s3 :: s4 :: s5 :: s6 :: .val d :: r, W⟩ := rfl
theorem pkVarO7 : pkVar 7 ⟨s0 :: s1 :: s2 :: s3 :: s4 :: s5 :: s6 :: .own o :: r, W⟩ U E = U (.slot 7) ⟨s0 :: s1 :: s2 :: s3 :: s4 :: s5 :: s6 :: .own o :: r, W⟩ := rfl
theorem kSetN7 : kSet 7 P d ⟨s0 :: s1 :: s2 :: s3 :: s4 :: s5 :: s6 :: s7 :: r, W⟩ = P.nx ⟨s0 :: s1 :: s2 :: s3 :: s4 :: s5 :: s6 :: .val d :: r, W⟩ := rfl
theorem kSetO_N7 : kSetO 7 P o ⟨s0 :: s1 :: s2 :: s3 :: s4 :: s5 :: s6 :: s7 :: r, W⟩ = P.nx ⟨s0 :: s1 :: s2 :: s3 :: s4 :: s5 :: s6 :: .own o :: r, W⟩ := rfl
theorem pgNameN7 : pgName 7 d ⟨s0 :: s1 :: s2 :: s3 :: s4 :: s5 :: s6 :: s7 :: r, W⟩ T = T ⟨s0 :: s1 :: s2 :: s3 :: s4 :: s5 :: s6 :: .val d :: r, W⟩ := rfl
theorem ixS7 : ixC (con ⟨s0 :: s1 :: s2 :: s3 :: s4 :: s5 :: s6 :: .own o :: r, W⟩ (.slot 7)) y G = ixC (.own o) y G := rfl
theorem lenS7 : lenC (con ⟨s0 :: s1 :: s2 :: s3 :: s4 :: s5 :: s6 :: .own o :: r, W⟩ (.slot 7)) G = lenC (.own o) G := rfl
theorem setS7 : setC (con ⟨s0 :: s1 :: s2 :: s3 :: s4 :: s5 :: s6 :: .own o :: r, W⟩ (.slot 7)) y d V = setC (.own o) y d V := rfl
theorem conS7 : con ⟨s0 :: s1 :: s2 :: s3 :: s4 :: s5 :: s6 :: .own o :: r, W⟩ (.slot 7) = .own o := rfl
theorem putS7 : putC ⟨s0 :: s1 :: s2 :: s3 :: s4 :: s5 :: s6 :: s7 :: r, W⟩ (.slot 7) u = ⟨s0 :: s1 :: s2 :: s3 :: s4 :: s5 :: s6 :: .own u :: r, W⟩ := rfl
theorem pVarV8 : pVar 8 ⟨s0 :: s1 :: s2 :: s3 :: s4 :: s5 :: s6 :: s7 :: .val d :: r, W⟩ Q E = Q d ⟨s0 :: s1 :: s2 :: s3 :: s4 :: s5 :: s6 :: s7 :: .val d :: r, W⟩ := rfl
theorem pVarL8 : pVar 8 ⟨s0 :: s1 :: s2 :: s3 :: s4 :: s5 :: s6 :: s7 :: .own (.lst xs) :: r, W⟩ Q E = Q (.lst xs) ⟨s0 :: s1 :: s2 :: s3 :: s4 :: s5 :: s6 :: s7 :: .val (.lst xs) :: r, W⟩ := rfl
theorem pVarD8 : pVar 8 ⟨s0 :: s1 :: s2 :: s3 :: s4 :: s5 :: s6 :: s7 :: .own (.dct ks vs) :: r, W⟩ Q E = Q (.dct ks vs) ⟨s0 :: s1 :: s2 :: s3 :: s4 :: s5 :: s6 :: s7 :: .val (.dct ks vs) :: r, W⟩ := rfl
theorem pkVarV8 : pkVar 8 ⟨s0 :: s1 :: s2 :: s3 :: s4 :: s5 :: s6 :: s7 :: .val d :: r, W⟩ U E = U (.val d) ⟨s0 :: s1 :: s2 :: s3 :: s4 :: s5 :: s6 :: s7 :: .val d :: r, W⟩ := rfl
theorem pkVarO8 : pkVar 8 ⟨s0 :: s1 :: s2 :: s3 :: s4 :: s5 :: s6 :: s7 :: .own o :: r, W⟩ U E = U (.slot 8) ⟨s0 :: s1 :: s2 :: s3 :: s4 :: s5 :: s6 :: s7 :: .own o :: r, W⟩ := rfl
theorem kSetN8 : kSet 8 P d ⟨s0 :: s1 :: s2 :: s3 :: s4 :: s5 :: s6 :: s7 :: s8 :: r, W⟩ = P.nx ⟨s0 :: s1 :: s2 :: s3 :: s4 :: s5 :: s6 :: s7 :: .val d :: r, W⟩ := rfl
theorem kSetO_N8 : kSetO 8 P o ⟨s0 :: s1 :: s2 :: s3 :: s4 :: s5 :: s6 :: s7 :: s8 :: r, W⟩ = P.nx ⟨s0 :: s1 :: s2 :: s3 :: s4 :: s5 :: s6 :: s7 :: .own o :: r, W⟩ := rfl
theorem pgNameN8 : pgName 8 d ⟨s0 :: s1 :: s2 :: s3 :: s4 :: s5 :: s6 :: s7 :: s8 :: r, W⟩ T = T ⟨s0 :: s1 :: s2 :: s3 :: s4 :: s5 :: s6 :: s7 :: .val d :: r, W⟩ := rfl
theorem ixS8 : ixC (con ⟨s0 :: s1 :: s2 :: s3 :: s4 :: s5 :: s6 :: s7 :: .own o :: r, W⟩ (.slot 8)) y G = ixC (.own o) y G := rfl
theorem lenS8 : lenC (con ⟨s0 :: s1 :: s2 :: s3 :: s4 :: s5 :: s6 :: s7 :: .own o :: r, W⟩ (.slot 8)) G = lenC (.own o) G := rfl
theorem setS8 : setC (con ⟨s0 :: s1 :: s2 :: s3 :: s4 :: s5 :: s6 :: s7 :: .own o :: r, W⟩ (.slot 8)) y d V = setC (.own o) y d V := rfl
theorem conS8 : con ⟨s0 :: s1 :: s2 :: s3 :: s4 :: s5 :: s6 :: s7 :: .own o :: r, W⟩ (.slot 8) = .own o := rfl
theorem putS8 : putC ⟨s0 :: s1 :: s2 :: s3 :: s4 :: s5 :: s6 :: s7 :: s8 :: r, W⟩ (.slot 8) u = ⟨s0 :: s1 :: s2 :: s3 :: s4 :: s5 :: s6 :: s7 :: .own u :: r, W⟩ := rfl
theorem pVarV9 : pVar 9 ⟨s0 :: s1 :: s2 :: s3 :: s4 :: s5 :: s6 :: s7 :: s8 :: .val d :: r, W⟩ Q E = Q d ⟨s0 :: s1 :: s2 :: s3 :: s4 :: s5 :: s6 :: s7 :: s8 :: .val d :: r, W⟩ := rfl
theorem pVarL9 : pVar 9 ⟨s0 :: s1 :: s2 :: s3 :: s4 :: s5 :: s6 :: s7 :: s8 :: .own (.lst xs) :: r, W⟩ Q E = Q (.lst xs) ⟨s0 :: s1 :: s2 :: s3 :: s4 :: s5 :: s6 :: s7 :: s8 :: .val (.lst xs) :: r, W⟩ := rfl
theorem pVarD9 : pVar 9 ⟨s0 :: s1 :: s2 :: s3 :: s4 :: s5 :: s6 :: s7 :: s8 :: .own (.dct ks vs) :: r, W⟩ Q E = Q (.dct ks vs) ⟨s0 :: s1 :: s2 :: s3 :: s4 :: s5 :: s6 :: s7 :: s8 :: .val (.dct ks vs) :: r, W⟩ := rfl
theorem pkVarV9 : pkVar 9 ⟨s0 :: s1 :: s2 :: s3 :: s4 :: s5 :: s6 :: s7 :: s8 :: .val d :: r, W⟩ U E = U (.val d) ⟨s0 :: s1 :: s2 :: s3 :: s4 :: s5 :: s6 :: s7 :: s8 :: .val d :: r, W⟩ := rfl
theorem pkVarO9 : pkVar 9 ⟨s0 :: s1 :: s2 :: s3 :: s4 :: s5 :: s6 :: s7 :: s8 :: .own o :: r, W⟩ U E = U (.slot 9) ⟨s0 :: s1 :: s2 :: s3 :: s4 :: s5 :: s6 :: s7 :: s8 :: .own o :: r, W⟩ := rfl
theorem kSetN9 : kSet 9 P d ⟨s0 :: s1 :: s2 :: s3 :: s4 :: s5 :: s6 :: s7 :: s8 :: s9 :: r, W⟩ = P.nx ⟨s0 :: s1 :: s2 :: s3 :: s4 :: s5 :: s6 :: s7 :: s8 :: .val d :: r, W⟩ := rfl
theorem kSetO_N9 : kSetO 9 P o ⟨s0 :: s1 :: s2 :: s3 :: s4 :: s5 :: s6 :: s7 :: s8 :: s9 :: r, W⟩ = P.nx ⟨s0 :: s1 :: s2 :: s3 :: s4 :: s5 :: s6 :: s7 :: s8 :: .own o :: r, W⟩ := rfl
theorem pgNameN9 : pgName 9 d ⟨s0 :: s1 :: s2 :: s3 :: s4 :: s5 :: s6 :: s7 :: s8 :: s9 :: r, W⟩ T = T ⟨s0 :: s1 :: s2 :: s3 :: s4 :: s5 :: s6 :: s7 :: s8 :: .val d :: r, W⟩ := rfl
theorem ixS9 : ixC (con ⟨s0 :: s1 :: s2 :: s3 :: s4 :: s5 :: s6 :: s7 :: s8 :: .own o :: r, W⟩ (.slot 9)) y G = ixC (.own o) y G := rfl
theorem lenS9 : lenC (con ⟨s0 :: s1 :: s2 :: s3 :: s4 :: s5 :: s6 :: s7 :: s8 :: .own o :: r, W⟩ (.slot 9)) G = lenC (.own o) G := rfl
theorem setS9 : setC (con ⟨s0 :: s1 :: s2 :: s3 :: s4 :: s5 :: s6 :: s7 :: s8 :: .own o :: r, W⟩ (.slot 9)) y d V = setC (.own o) y d V := rfl
theorem conS9 : con ⟨s0 :: s1 :: s2 :: s3 :: s4 :: s5 :: s6 :: s7 :: s8 :: .own o :: r, W⟩ (.slot 9) = .own o := rfl
theorem putS9 : putC ⟨s0 :: s1 :: s2 :: s3 :: s4 :: s5 :: s6 :: s7 :: s8 :: s9 :: r, W⟩ (.slot 9) u = ⟨s0 :: s1 :: s2 :: s3 :: s4 :: s5 :: s6 :: s7 :: s8 :: .own u :: r, W⟩ := rfl
theorem pVarV10 : pVar 10 ⟨s0 :: s1 :: s2 :: s3 :: s4 :: s5 :: s6 :: s7 :: s8 :: s9 :: .val d :: r, W⟩ Q E = Q d ⟨s0 :: s1 :: s2 :: s3 :: s4 :: s5 :: s6 :: s7 :: s8 :: s9 :: .val d :: r, W⟩ := rfl
theorem pVarL10 : pVar 10 ⟨s0 :: s1 :: s2 :: s3 :: s4 :: s5 :: s6 :: s7 :: s8 :: s9 :: .own (.lst xs) :: r, W⟩ Q E = Q (.lst xs) ⟨s0 :: s1 :: s2 :: s3 :: s4 :: s5 :: s6 :: s7 :: s8 :: s9 :: .val (.lst xs) :: r, W⟩ := rfl
theorem pVarD10 : pVar 10 ⟨s0 :: s1 :: s2 :: s3 :: s4 :: s5 :: s6 :: s7 :: s8 :: s9 :: .own (.dct ks vs) :: r, W⟩ Q E = Q (.dct ks vs) ⟨s0 :: s1 :: s2 :: s3 :: s4 :: s5 :: s6 :: s7 :: s8 :: s9 :: .val (.dct ks vs) :: r, W⟩ := rfl
theorem pkVarV10 : pkVar 10 ⟨s0 :: s1 :: s2 :: s3 :: s4 :: s5 :: s6 :: s7 :: s8 :: s9 :: .val d :: r, W⟩ U E = U (.val d) ⟨s0 :: s1 :: s2 :: s3 :: s4 :: s5 :: s6 :: s7 :: s8 :: s9 :: .val d :: r, W⟩ := rfl
theorem pkVarO10 : pkVar 10 ⟨s0 :: s1 :: s2 :: s3 :: s4 :: s5 :: s6 :: s7 :: s8 :: s9 :: .own o :: r, W⟩ U E = U (.slot 10) ⟨s0 :: s1 :: s2 :: s3 :: s4 :: s5 :: s6 :: s7 :: s8 :: s9 :: .own o :: r, W⟩ := rfl
theorem kSetN10 : kSet 10 P d ⟨s0 :: s1 :: s2 :: s3 :: s4 :: s5 :: s6 :: s7 :: s8 :: s9 :: s10 :: r, W⟩ = P.nx ⟨s0 :: s1 :: s2 :: s3 :: s4 :: s5 :: s6 :: s7 :: s8 :: s9 :: .val d :: r, W⟩ := rfl
theorem kSetO_N10 : kSetO 10 P o ⟨s0 :: s1 :: s2 :: s3 :: s4 :: s5 :: s6 :: s7 :: s8 :: s9 :: s10 :: r, W⟩ = P.nx ⟨s0 :: s1 :: s2 :: s3 :: s4 :: s5 :: s6 :: s7 :: s8 :: s9 :: .own o :: r, W⟩ := rfl
theorem pgNameN10 : pgName 10 d ⟨s0 :: s1 :: s2 :: s3 :: s4 :: s5 :: s6 :: s7 :: s8 :: s9 :: s10 :: r, W⟩ T = T ⟨s0 :: s1 :: s2 :: s3 :: s4 :: s5 :: s6 :: s7 :: s8 :: s9 :: .val d :: r, W⟩ := rfl
theorem ixS10 : ixC (con ⟨s0 :: s1 :: s2 :: s3 :: s4 :: s5 :: s6 :: s7 :: s8 :: s9 :: .own o :: r, W⟩ (.slot 10)) y G = ixC (.own o) y G := rfl
theorem lenS10 : lenC (con ⟨s0 :: s1 :: s2 :: s3 :: s4 :: s5 :: s6 :: s7 :: s8 :: s9 :: .own o :: r, W⟩ (.slot 10)) G = lenC (.own o) G := rfl
theorem setS10 : setC (con ⟨s0 :: s1 :: s2 :: s3 :: s4 :: s5 :: s6 :: s7 :: s8 :: s9 :: .own o :: r, W⟩ (.slot 10)) y d V = setC (.own o) y d V := rfl
theorem conS10 : con ⟨s0 :: s1 :: s2 :: s3 :: s4 :: s5 :: s6 :: s7 :: s8 :: s9 :: .own o :: r, W⟩ (.slot 10) = .own o := rfl
theorem putS10 : putC ⟨s0 :: s1 :: s2 :: s3 :: s4 :: s5 :: s6 :: s7 :: s8 :: s9 :: s10 :: r, W⟩ (.slot 10) u = ⟨s0 :: s1 :: s2 :: s3 :: s4 :: s5 :: s6 :: s7 :: s8 :: s9 :: .own u :: r, W⟩ := rfl
theorem pVarV11 : pVar 11 ⟨s0 :: s1 :: s2 :: s3 :: s4 :: s5 :: s6 :: s7 :: s8 :: s9 :: s10 :: .val d :: r, W⟩ Q E = Q d ⟨s0 :: s1 :: s2 :: s3 :: s4 :: s5 :: s6 :: s7 :: s8 :: s9 :: s10 :: .val d :: r, W⟩ := rfl
theorem pVarL11 : pVar 11 ⟨s0 :: s1 :: s2 :: s3 :: s4 :: s5 :: s6 :: s7 :: s8 :: s9 :: s10 :: .own (.lst xs) :: r, W⟩ Q E = Q (.lst xs) ⟨s0 :: s1 :: s2 :: s3 :: s4 :: s5 :: s6 :: s7 :: s8 :: s9 :: s10 :: .val (.lst xs) :: r, W⟩ := rfl
theorem pVarD11 : pVar 11 ⟨s0 :: s1 :: s2 :: s3 :: s4 :: s5 :: s6 :: s7 :: s8 :: s9 :: s10 :: .own (.dct ks vs) :: r, W⟩ Q E = Q (.dct ks vs) ⟨s0 :: s1 :: s2 :: s3 :: s4 :: s5 :: s6 :: s7 :: s8 :: s9 :: s10 :: .val (.dct ks vs) :: r, W⟩ := rfl
theorem pkVarV11 : pkVar 11 ⟨s0 :: s1 :: s2 :: s3 :: s4 :: s5 :: s6 :: s7 :: s8 :: s9 :: s10 :: .val d :: r, W⟩ U E = U (.val d) ⟨s0 :: s1 :: s2 :: s3 :: s4 :: s5 :: s6 :: s7 :: s8 :: s9 :: s10 :: .val d :: r, W⟩ := rfl
theorem pkVarO11 : pkVar 11 ⟨s0 :: s1 :: s2 :: s3 :: s4 :: s5 :: s6 :: s7 :: s8 :: s9 :: s10 :: .own o :: r, W⟩ U E = U (.slot 11) ⟨s0 :: s1 :: s2 :: s3 :: s4 :: s5 :: s6 :: s7 :: s8 :: s9 :: s10 :: .own o :: r, W⟩ := rfl
theorem kSetN11 : kSet 11 P d ⟨s0 :: s1 :: s2 :: s3 :: s4 :: s5 :: s6 :: s7 :: s8 :: s9 :: s10 :: s11 :: r, W⟩ = P.nx ⟨s0 :: s1 :: s2 :: s3 :: s4 :: s5 :: s6 :: s7 :: s8 :: s9 :: s10 :: .val d :: r, W⟩ := rfl
theorem kSetO_N11 : kSetO 11 P o ⟨s0 :: s1 :: s2 :: s3 :: s4 :: s5 :: s6 :: s7 :: s8 :: s9 :: s10 :: s11 :: r, W⟩ = P.nx ⟨s0 :: s1 :: s2 :: s3 :: s4 :: s5 :: s6 :: s7 :: s8 :: s9 :: s10 :: .own o :: r, W⟩ := rfl
theorem pgNameN11 : pgName 11 d ⟨s0 :: s1 :: s2 :: s3 :: s4 :: s5 :: s6 :: s7 :: s8 :: s9 :: s10 :: s11 :: r, W⟩ T = T ⟨s0 :: s1 :: s2 :: s3 :: s4 :: s5 :: s6 :: s7 :: s8 :: s9 :: s10 :: .val d :: r, W⟩ := rfl
theorem ixS11 : ixC (con ⟨s0 :: s1 :: s2 :: s3 :: s4 :: s5 :: s6 :: s7 :: s8 :: s9 :: s10 :: .own o :: r, W⟩ (.slot 11)) y G = ixC (.own o) y G := rfl
theorem lenS11 : lenC (con ⟨s0 :: s1 :: s2 :: s3 :: s4 :: s5 :: s6 :: s7 :: s8 :: s9 :: s10 :: .own o :: r, W⟩ (.slot 11)) G = lenC (.own o) G := rfl
theorem setS11 : setC (con ⟨s0 :: s1 :: s2 :: s3 :: s4 :: s5 :: s6 :: s7 :: s8 :: s9 :: s10 :: .own o :: r, W⟩ (.slot 11)) y d V = setC (.own o) y d V := rfl
theorem conS11 : con ⟨s0 :: s1 :: s2 :: s3 :: s4 :: s5 :: s6 :: s7 :: s8 :: s9 :: s10 :: .own o :: r, W⟩ (.slot 11) = .own o := rfl
theorem putS11 : putC ⟨s0 :: s1 :: s2 :: s3 :: s4 :: s5 :: s6 :: s7 :: s8 :: s9 :: s10 :: s11 :: r, W⟩ (.slot 11) u = ⟨s0 :: s1 :: s2 :: s3 :: s4 :: s5 :: s6 :: s7 :: s8 :: s9 :: s10 :: .own u :: r, W⟩ := rfl
theorem pVarV12 : pVar 12 ⟨s0 :: s1 :: s2 :: s3 :: s4 :: s5 :: s6 :: s7 :: s8 :: s9 :: s10 :: s11 :: .val d :: r, W⟩ Q E = Q d ⟨s0 :: s1 :: s2 :: s3 :: s4 :: s5 :: s6 :: s7 :: s8 :: s9 :: s10 :: s11 :: .val d :: r, W⟩ := rfl
theorem pVarL12 : pVar 12 ⟨s0 :: s1 :: s2 :: s3 :: s4 :: s5 :: s6 :: s7 :: s8 :: s9 :: s10 :: s11 :: .own (.lst xs) :: r, W⟩ Q E = Q (.lst xs) ⟨s0 :: s1 :: s2 :: s3 :: s4 :: s5 :: s6 :: s7 :: s8 :: s9 :: s10 :: s11 :: .val (.lst xs) :: r, W⟩ := rfl
theorem pVarD12 : pVar 12 ⟨s0 :: s1 :: s2 :: s3 :: s4 :: s5 :: s6 :: s7 :: s8 :: s9 :: s10 :: s11 :: .own (.dct ks vs) :: r, W⟩ Q E = Q (.dct ks vs) ⟨s0 :: s1 :: s2 :: s3 :: s4 :: s5 :: s6 :: s7 :: s8 :: s9 :: s10 :: s11 :: .val (.dct ks vs) :: r, W⟩ := rfl
theorem pkVarV12 : pkVar 12 ⟨s0 :: s1 :: s2 :: s3 :: s4 :: s5 :: s6 :: s7 :: s8 :: s9 :: s10 :: s11 :: .val d :: r, W⟩ U E = U (.val d) ⟨s0 :: s1 :: s2 :: s3 :: s4 :: s5 :: s6 :: s7 :: s8 :: s9 :: s10 :: s11 :: .val d :: r, W⟩ := rfl
theorem pkVarO12 : pkVar 12 ⟨s0 :: s1 :: s2 :: s3 :: s4 :: s5 :: s6 :: s7 :: s8 :: s9 :: s10 :: s11 :: .own o :: r, W⟩ U E = U (.slot 12) ⟨s0 :: s1 :: s2 :: s3 :: s4 :: s5 :: s6 :: s7 :: s8 :: s9 :: s10 :: s11 :: .own o :: r, W⟩ := rfl
theorem kSetN12 : kSet 12 P d ⟨s0 :: s1 :: s2 :: s3 :: s4 :: s5 :: s6 :: s7 :: s8 :: s9 :: s10 :: s11 :: s12 :: r, W⟩ = P.nx ⟨s0 :: s1 :: s2 :: s3 :: s4 :: s5 :: s6 :: s7 :: s8 :: s9 :: s10 :: s11 :: .val d :: r, W⟩ := rfl
theorem kSetO_N12 : kSetO 12 P o ⟨s0 :: s1 :: s2 :: s3 :: s4 :: s5 :: s6 :: s7 :: s8 :: s9 :: s10 :: s11 :: s12 :: r, W⟩ = P.nx ⟨s0 :: s1 :: s2 :: s3 :: s4 :: s5 :: s6 :: s7 :: s8 :: s9 :: s10 :: s11 :: .own o :: r, W⟩ := rfl
theorem pgNameN12 : pgName 12 d ⟨s0 :: s1 :: s2 :: s3 :: s4 :: s5 :: s6 :: s7 :: s8 :: s9 :: s10 :: s11 :: s12 :: r, W⟩ T = T ⟨s0 :: s1 :: s2 :: s3 :: s4 :: s5 :: s6 :: s7 :: s8 :: s9 :: s10 :: s11 :: .val d :: r, W⟩ := rfl
theorem ixS12 : ixC (con ⟨s0 :: s1 :: s2 :: s3 :: s4 :: s5 :: s6 :: s7 :: s8 :: s9 :: s10 :: s11 :: .own o :: r, W⟩ (.slot 12)) y G = ixC (.own o) y G := rfl
theorem lenS12 : lenC (con ⟨s0 :: s1 :: s2 :: s3 :: s4 :: s5 :: s6 :: s7 :: s8 :: s9 :: s10 :: s11 :: .own o :: r, W⟩ (.slot 12)) G = lenC (.own o) G := rfl
theorem setS12 : setC (con ⟨s0 :: s1 :: s2 :: s3 :: s4 :: s5 :: s6 :: s7 :: s8 :: s9 :: s10 :: s11 :: .own o :: r, W⟩ (.slot 12)) y d V = setC (.own o) y d V := rfl
theorem conS12 : con ⟨s0 :: s1 :: s2 :: s3 :: s4 :: s5 :: s6 :: s7 :: s8 :: s9 :: s10 :: s11 :: .own o :: r, W⟩ (.slot 12) = .own o := rfl
theorem putS12 : putC ⟨s0 :: s1 :: s2 :: s3 :: s4 :: s5 :: s6 :: s7 :: s8 :: s9 :: s10 :: s11 :: s12 :: r, W⟩ (.slot 12) u = ⟨s0 :: s1 :: s2 :: s3 :: s4 :: s5 :: s6 :: s7 :: s8 :: s9 :: s10 :: s11 :: .own u :: r, W⟩ := rfl
theorem pVarV13 : pVar 13 ⟨s0 :: s1 :: s2 :: s3 :: s4 :: s5 :: s6 :: s7 :: s8 :: s9 :: s10 :: s11 :: s12 :: .val d :: r, W⟩ Q E = Q d ⟨s0 :: s1 :: s2 :: s3 :: s4 :: s5 :: s6 :: s7 :: s8 :: s9 :: s10 :: s11 :: s12 :: .val d :: r, W⟩ := rfl
theorem pVarL13 : pVar 13 ⟨s0 :: s1 :: s2 :: s3 :: s4 :: s5 :: s6 :: s7 :: s8 :: s9 :: s10 :: s11 :: s12 :: .own (.lst xs) :: r, W⟩ Q E = Q (.lst xs) ⟨s0 :: s1 :: s2 :: s3 :: s4 :: s5 :: s6 :: s7 :: s8 :: s9 :: s10 :: s11 :: s12 :: .val (.lst xs) :: r, W⟩ := rfl
theorem pVarD13 : pVar 13 ⟨s0 :: s1 :: s2 :: s3 :: s4 :: s5 :: s6 :: s7 :: s8 :: s9 :: s10 :: s11 :: s12 :: .own (.dct ks vs) :: r, W⟩ Q E = Q (.dct ks vs) ⟨s0 :: s1 :: s2 :: s3 :: s4 :: s5 :: s6 :: s7 :: s8 :: s9 :: s10 :: s11 :: s12 :: .val (.dct ks vs) :: r, W⟩ := rfl
theorem pkVarV13 : pkVar 13 ⟨s0 :: s1 :: s2 :: s3 :: s4 :: s5 :: s6 :: s7 :: s8 :: s9 :: s10 :: s11 :: s12 :: .val d :: r, W⟩ U E = U (.val d) ⟨s0 :: s1 :: s2 :: s3 :: s4 :: s5 :: s6 :: s7 :: s8 :: s9 :: s10 :: s11 :: s12 :: .val d :: r, W⟩ := rfl
theorem pkVarO13 : pkVar 13 ⟨s0 :: s1 :: s2 :: s3 :: s4 :: s5 :: s6 :: s7 :: s8 :: s9 :: s10 :: s11 :: s12 :: .own o :: r, W⟩ U E = U (.slot 13) ⟨s0 :: s1 :: s2 :: s3 :: s4 :: s5 :: s6 :: s7 :: s8 :: s9 :: s10 :: s11 :: s12 :: .own o :: r, W⟩ := rfl
theorem kSetN13 : kSet 13 P d ⟨s0 :: s1 :: s2 :: s3 :: s4 :: s5 :: s6 :: s7 :: s8 :: s9 :: s10 :: s11 :: s12 :: s13 :: r, W⟩ = P.nx ⟨s0 :: s1 :: s2 :: s3 :: s4 :: s5 :: s6 :: s7 :: s8 :: s9 :: s10 :: s11 :: s12 :: .val d :: r, W⟩ := rfl
theorem kSetO_N13 : kSetO 13 P o ⟨s0 :: s1 :: s2 :: s3 :: s4 :: s5 :: s6 :: s7 :: s8 :: s9 :: s10 :: s11 :: s12 :: s13 :: r, W⟩ = P.nx ⟨s0 :: s1 :: s2 :: s3 :: s4 :: s5 :: s6 :: s7 :: s8 :: s9 :: s10 :: s11 :: s12 :: .own o :: r, W⟩ := rfl
theorem pgNameN13 : pgName 13 d ⟨s0 :: s1 :: s2 :: s3 :: s4 :: s5 :: s6 :: s7 :: s8 :: s9 :: s10 :: s11 :: s12 :: s13 :: r, W⟩ T = T ⟨s0 :: s1 :: s2 :: s3 :: s4 :: s5 :: s6 :: s7 :: s8 :: s9 :: s10 :: s11 :: s12 :: .val d :: r, W⟩ := rfl
theorem ixS13 : ixC (con ⟨s0 :: s1 :: s2 :: s3 :: s4 :: s5 :: s6 :: s7 :: s8 :: s9 :: s10 :: s11 :: s12 :: .own o :: r, W⟩ (.slot 13)) y G = ixC (.own o) y G := rfl
theorem lenS13 : lenC (con ⟨s0 :: s1 :: s2 :: s3 :: s4 :: s5 :: s6 :: s7 :: s8 :: s9 :: s10 :: s11 :: s12 :: .own o :: r, W⟩ (.slot 13)) G = lenC (.own o) G := rfl
theorem setS13 : setC (con ⟨s0 :: s1 :: s2 :: s3 :: s4 :: s5 :: s6 :: s7 :: s8 :: s9 :: s10 :: s11 :: s12 :: .own o :: r, W⟩ (.slot 13)) y d V = setC (.own o) y d V := rfl
theorem conS13 : con ⟨s0 :: s1 :: s2 :: s3 :: s4 :: s5 :: s6 :: s7 :: s8 :: s9 :: s10 :: s11 :: s12 :: .own o :: r, W⟩ (.slot 13) = .own o := rfl
theorem putS13 : putC ⟨s0 :: s1 :: s2 :: s3 :: s4 :: s5 :: s6 :: s7 :: s8 :: s9 :: s10 :: s11 :: s12 :: s13 :: r, W⟩ (.slot 13) u = ⟨s0 :: s1 :: s2 :: s3 :: s4 :: s5 :: s6 :: s7 :: s8 :: s9 :: s10 :: s11 :: s12 :: .own u :: r, W⟩ := rfl
theorem pVarV14 : pVar 14 ⟨s0 :: s1 :: s2 :: s3 :: s4 :: s5 :: s6 :: s7 :: s8 :: s9 :: s10 :: s11 :: s12 :: s13 :: .val d :: r, W⟩ Q E = Q d ⟨s0 :: s1 :: s2 :: s3 :: s4 :: s5 :: s6 :: s7 :: s8 :: s9 :: s10 :: s11 :: s12 :: s13 :: .val d :: r, W⟩ := rfl
theorem pVarL14 : pVar 14 ⟨s0 :: s1 :: s2 :: s3 :: s4 :: s5 :: s6 :: s7 :: s8 :: s9 :: s10 :: s11 :: s12 :: s13 :: .own (.lst xs) :: r, W⟩ Q E = Q (.lst xs) ⟨s0 :: s1 :: s2 :: s3 :: s4 :: s5 :: s6 :: s7 :: s8 :: s9 :: s10 :: s11 :: s12 :: s13 :: .val (.lst xs) :: r, W⟩ := rfl
theorem pVarD14 : pVar 14 ⟨s0 :: s1 :: s2 :: s3 :: s4 :: s5 :: s6 :: s7 :: s8 :: s9 :: s10 :: s11 :: s12 :: s13 :: .own (.dct ks vs) :: r, W⟩ Q E = Q (.dct ks vs) ⟨s0 :: s1 :: s2 :: s3 :: s4 :: s5 :: s6 :: s7 :: s8 :: s9 :: s10 :: s11 :: s12 :: s13 :: .val (.dct ks vs) :: r, W⟩ := rfl
theorem pkVarV14 : pkVar 14 ⟨s0 :: s1 :: s2 :: s3 :: s4 :: s5 :: s6 :: s7 :: s8 :: s9 :: s10 :: s11 :: s12 :: s13 :: .val d :: r, W⟩ U E = U (.val d) ⟨s0 :: s1 :: s2 :: s3 :: s4 :: s5 :: s6 :: s7 :: s8 :: s9 :: s10 :: s11 :: s12 :: s13 :: .val d :: r, W⟩ := rfl
theorem pkVarO14 : pkVar 14 ⟨s0 :: s1 :: s2 :: s3 :: s4 :: s5 :: s6 :: s7 :: s8 :: s9 :: s10 :: s11 :: s12 :: s13 :: .own o :: r, W⟩ U E = U (.slot 14) ⟨s0 :: s1 :: s2 :: s3 :: s4 :: s5 :: s6 :: s7 :: s8 :: s9 :: s10 :: s11 :: s12 :: s13 :: .own o :: r, W⟩ := rfl
theorem kSetN14 : kSet 14 P d ⟨s0 :: s1 :: s2 :: s3 :: s4 :: s5 :: s6 :: s7 :: s8 :: s9 :: s10 :: s11 :: s12 :: s13 :: s14 :: r, W⟩ = P.nx ⟨s0 :: s1 :: s2 :: s3 :: s4 :: s5 :: s6 :: s7 :: s8 :: s9 :: s10 :: s11 :: s12 :: s13 :: .val d :: r, W⟩ := rfl
theorem kSetO_N14 : kSetO 14 P o ⟨s0 :: s1 :: s2 :: s3 :: s4 :: s5 :: s6 :: s7 :: s8 :: s9 :: s10 :: s11 :: s12 :: s13 :: s14 :: r, W⟩ = P.nx ⟨s0 :: s1 :: s2 :: s3 :: s4 :: s5 :: s6 :: s7 :: s8 :: s9 :: s10 :: s11 :: s12 :: s13 :: .own o :: r, W⟩ := rfl
theorem pgNameN14 : pgName 14 d ⟨s0 :: s1 :: s2 :: s3 :: s4 :: s5 :: s6 :: s7 :: s8 :: s9 :: s10 :: s11 :: s12 :: s13 :: s14 :: r, W⟩ T = T ⟨s0 :: s1 :: s2 :: s3 :: s4 :: s5 :: s6 :: s7 :: s8 :: s9 :: s10 :: s11 :: s12 :: s13 :: .val d :: r, W⟩ := rfl
theorem ixS14 : ixC (con ⟨s0 :: s1 :: s2 :: s3 :: s4 :: s5 :: s6 :: s7 :: s8 :: s9 :: s10 :: s11 :: s12 :: s13 :: .own o :: r, W⟩ (.slot 14)) y G = ixC (.own o) y G := rfl
theorem lenS14 : lenC (con ⟨s0 :: s1 :: s2 :: s3 :: s4 :: s5 :: s6 :: s7 :: s8 :: s9 :: s10 :: s11 :: s12 :: s13 :: .own o :: r, W⟩ (.slot 14)) G = lenC (.own o) G := rfl
theorem setS14 : setC (con ⟨s0 :: s1 :: s2 :: s3 :: s4 :: s5 :: s6 :: s7 :: s8 :: s9 :: s10 :: s11 :: s12 :: s13 :: .own o :: r, W⟩ (.slot 14)) y d V = setC (.own o) y d V := rfl
theorem conS14 : con ⟨s0 :: s1 :: s2 :: s3 :: s4 :: s5 :: s6 :: s7 :: s8 :: s9 :: s10 :: s11 :: s12 :: s13 :: .own o :: r, W⟩ (.slot 14) = .own o := rfl
theorem putS14 : putC ⟨s0 :: s1 :: s2 :: s3 :: s4 :: s5 :: s6 :: s7 :: s8 :: s9 :: s10 :: s11 :: s12 :: s13 :: s14 :: r, W⟩ (.slot 14) u = ⟨s0 :: s1 :: s2 :: s3 :: s4 :: s5 :: s6 :: s7 :: s8 :: s9 :: s10 :: s11 :: s12 :: s13 :: .own u :: r, W⟩ := rfl
theorem pVarV15 : pVar 15 ⟨s0 :: s1 :: s2 :: s3 :: s4 :: s5 :: s6 :: s7 :: s8 :: s9 :: s10 :: s11 :: s12 :: s13 :: s14 :: .val d :: r, W⟩ Q E = Q d ⟨s0 :: s1 :: s2 :: s3 :: s4 :: s5 :: s6 :: s7 :: s8 :: s9 :: s10 :: s11 :: s12 :: s13 :: s14 :: .val d :: r, W⟩ := rfl
theorem pVarL15 : pVar 15 ⟨s0 :: s1 :: s2 :: s3 :: s4 :: s5 :: s6 :: s7 :: s8 :: s9 :: s10 :: s11 :: s12 :: s13 :: s14 :: .own (.lst xs) :: r, W⟩ Q E = Q (.lst xs) ⟨s0 :: s1 :: s2 :: s3 :: s4 :: s5 :: s6 :: s7 :: s8 :: s9 :: s10 :: s11 :: s12 :: s13 :: s14 :: .val (.lst xs) :: r, W⟩ := rfl
theorem pVarD15 : pVar 15 ⟨s0 :: s1 :: s2 :: s3 :: s4 :: s5 :: s6 :: s7 :: s8 :: s9 :: s10 :: s11 :: s12 :: s13 :: s14 :: .own (.dct ks vs) :: r, W⟩ Q E = Q (.dct ks vs) ⟨s0 :: s1 :: s2 :: s3 :: s4 :: s5 :: s6 :: s7 :: s8 :: s9 :: s10 :: s11 :: s12 :: s13 :: s14 :: .val (.dct ks vs) :: r, W⟩ := rfl
theorem pkVarV15 : pkVar 15 ⟨s0 :: s1 :: s2 :: s3 :: s4 :: s5 :: s6 :: s7 :: s8 :: s9 :: s10 :: s11 :: s12 :: s13 :: s14 :: .val d :: r, W⟩ U E = U (.val d) ⟨s0 :: s1 :: s2 :: s3 :: s4 :: s5 :: s6 :: s7 :: s8 :: s9 :: s10 :: s11 :: s12 :: s13 :: s14 :: .val d :: r, W⟩ := rfl
theorem pkVarO15 : pkVar 15 ⟨s0 :: s1 :: s2 :: s3 :: s4 :: s5 :: s6 :: s7 :: s8 :: s9 :: s10 :: s11 :: s12 :: s13 :: s14 :: .own o :: r, W⟩ U E = U (.slot 15) ⟨s0 :: s1 :: s2 :: s3 :: s4 :: s5 :: s6 :: s7 :: s8 :: s9 :: s10 :: s11 :: s12 :: s13 :: s14 :: .own o :: r, W⟩ := rfl
theorem kSetN15 : kSet 15 P d ⟨s0 :: s1 :: s2 :: s3 :: s4 :: s5 :: s6 :: s7 :: s8 :: s9 :: s10 :: s11 :: s12 :: s13 :: s14 :: s15 :: r, W⟩ = P.nx ⟨s0 :: s1 :: s2 :: s3 :: s4 :: s5 :: s6 :: s7 :: s8 :: s9 :: s10 :: s11 :: s12 :: s13 :: s14 :: .val d :: r, W⟩ := rfl
theorem kSetO_N15 : kSetO 15 P o ⟨s0 :: s1 :: s2 :: s3 :: s4 :: s5 :: s6 :: s7 :: s8 :: s9 :: s10 :: s11 :: s12 :: s13 :: s14 :: s15 :: r, W⟩ = P.nx ⟨s0 :: s1 :: s2 :: s3 :: s4 :: s5 :: s6 :: s7 :: s8 :: s9 :: s10 :: s11 :: s12 :: s13 :: s14 :: .own o :: r, W⟩ := rfl
theorem pgNameN15 : pgName 15 d ⟨s0 :: s1 :: s2 :: s3 :: s4 :: s5 :: s6 :: s7 :: s8 :: s9 :: s10 :: s11 :: s12 :: s13 :: s14 :: s15 :: r, W⟩ T = T ⟨s0 :: s1 :: s2 :: s3 :: s4 :: s5 :: s6 :: s7 :: s8 :: s9 :: s10 :: s11 :: s12 :: s13 :: s14 :: .val d :: r, W⟩ := rfl
theorem ixS15 : ixC (con ⟨s0 :: s1 :: s2 :: s3 :: s4 :: s5 :: s6 :: s7 :: s8 :: s9 :: s10 :: s11 :: s12 :: s13 :: s14 :: .own o :: r, W⟩ (.slot 15)) y G = ixC (.own o) y G := rfl
theorem lenS15 : lenC (con ⟨s0 :: s1 :: s2 :: s3 :: s4 :: s5 :: s6 :: s7 :: s8 :: s9 :: s10 :: s11 :: s12 :: s13 :: s14 :: .own o :: r, W⟩ (.slot 15)) G = lenC (.own o) G := rfl
theorem setS15 : setC (con ⟨s0 :: s1 :: s2 :: s3 :: s4 :: s5 :: s6 :: s7 :: s8 :: s9 :: s10 :: s11 :: s12 :: s13 :: s14 :: .own o :: r, W⟩ (.slot 15)) y d V = setC (.own o) y d V := rfl
theorem conS15 : con ⟨s0 :: s1 :: s2 :: s3 :: s4 :: s5 :: s6 :: s7 :: s8 :: s9 :: s10 :: s11 :: s12 :: s13 :: s14 :: .own o :: r, W⟩ (.slot 15) = .own o := rfl
theorem putS15 : putC ⟨s0 :: s1 :: s2 :: s3 :: s4 :: s5 :: s6 :: s7 :: s8 :: s9 :: s10 :: s11 :: s12 :: s13 :: s14 :: s15 :: r, W⟩ (.slot 15) u = ⟨s0 :: s1 :: s2 :: s3 :: s4 :: s5 :: s6 :: s7 :: s8 :: s9 :: s10 :: s11 :: s12 :: s13 :: s14 :: .own u :: r, W⟩ := rfl
theorem pVarV16 : pVar 16 ⟨s0 :: s1 :: s2 :: s3 :: s4 :: s5 :: s6 :: s7 :: s8 :: s9 :: s10 :: s11 :: s12 :: s13 :: s14 :: s15 :: .val d :: r, W⟩ Q E = Q d ⟨s0 :: s1 :: s2 :: s3 :: s4 :: s5 :: s6 :: s7 :: s8 :: s9 :: s10 :: s11 :: s12 :: s13 :: s14 :: s15 :: .val d :: r, W⟩ := rfl
theorem pVarL16 : pVar 16 ⟨s0 :: s1 :: s2 :: s3 :: s4 :: s5 :: s6 :: s7 :: s8 :: s9 :: s10 :: s11 :: s12 :: s13 :: s14 :: s15 :: .own (.lst xs) :: r, W⟩ Q E = Q (.lst xs) ⟨s0 :: s1 :: s2 :: s3 :: s4 :: s5 :: s6 :: s7 :: s8 :: s9 :: s10 :: s11 :: s12 :: s13 :: s14 :: s15 :: .val (.lst xs) :: r, W⟩ := rfl
theorem pVarD16 : pVar 16 ⟨s0 :: s1 :: s2 :: s3 :: s4 :: s5 :: s6 :: s7 :: s8 :: s9 :: s10 :: s11 :: s12 :: s13 :: s14 :: s15 :: .own (.dct ks vs) :: r, W⟩ Q E = Q (.dct ks vs) ⟨s0 :: s1 :: s2 :: s3 :: s4 :: s5 :: s6 :: s7 :: s8 :: s9 :: s10 :: s11 :: s12 :: s13 :: s14 :: s15 :: .val (.dct ks vs) :: r, W⟩ := rfl
theorem pkVarV16 : pkVar 16 ⟨s0 :: s1 :: s2 :: s3 :: s4 :: s5 :: s6 :: s7 :: s8 :: s9 :: s10 :: s11 :: s12 :: s13 :: s14 :: s15 :: .val d :: r, W⟩ U E = U (.val d) ⟨s0 :: s1 :: s2 :: s3 :: s4 :: s5 :: s6 :: s7 :: s8 :: s9 :: s10 :: s11 :: s12 :: s13 :: s14 :: s15 :: .val d :: r, W⟩ := rfl
theorem pkVarO16 : pkVar 16 ⟨s0 :: s1 :: s2 :: s3 :: s4 :: s5 :: s6 :: s7 :: s8 :: s9 :: s10 :: s11 :: s12 :: s13 :: s14 :: s15 :: .own o :: r, W⟩ U E = U (.slot 16) ⟨s0 :: s1 :: s2 :: s3 :: s4 :: s5 :: s6 :: s7 :: s8 :: s9 :: s10 :: s11 :: s12 :: s13 :: s14 :: s15 :: .own o :: r, W⟩ := rfl
theorem kSetN16 : kSet 16 P d ⟨s0 :: s1 :: s2 :: s3 :: s4 :: s5 :: s6 :: s7 :: s8 :: s9 :: s10 :: s11 :: s12 :: s13 :: s14 :: s15 :: s16 :: r, W⟩ = P.nx ⟨s0 :: s1 :: s2 :: s3 :: s4 :: s5 :: s6 :: s7 :: s8 :: s9 :: s10 :: s11 :: s12 :: s13 :: s14 :: s15 :: .val d :: r, W⟩ := rfl
theorem kSetO_N16 : kSetO 16 P o ⟨s0 :: s1 :: s2 :: s3 :: s4 :: s5 :: s6 :: s7 :: s8 :: s9 :: s10 :: s11 :: s12 :: s13 :: s14 :: s15 :: s16 :: r, W⟩ = P.nx ⟨s0 :: s1 :: s2 :: s3 :: s4 :: s5 :: s6 :: s7 :: s8 :: s9 :: s10 :: s11 :: s12 :: s13 :: s14 :: s15 :: .own o :: r, W⟩ := rfl
theorem pgNameN16 : pgName 16 d ⟨s0 :: s1 :: s2 :: s3 :: s4 :: s5 :: s6 :: s7 :: s8 :: s9 :: s10 :: s11 :: s12 :: s13 :: s14 :: s15 :: s16 :: r, W⟩ T = T ⟨s0 :: s1 :: s2 :: s3 :: s4 :: s5 :: s6 :: s7 :: s8 :: s9 :: s10 :: s11 :: s12 :: s13 :: s14 :: s15 :: .val d :: r, W⟩ := rfl
theorem ixS16 : ixC (con ⟨s0 :: s1 :: s2 :: s3 :: s4 :: s5 :: s6 :: s7 :: s8 :: s9 :: s10 :: s11 :: s12 :: s13 :: s14 :: s15 :: .own o :: r, W⟩ (.slot 16)) y G = ixC (.own o) y G := rfl
theorem lenS16 : lenC (con ⟨s0 :: s1 :: s2 :: s3 :: s4 :: s5 :: s6 :: s7 :: s8 :: s9 :: s10 :: s11 :: s12 :: s13 :: s14 :: s15 :: .own o :: r, W⟩ (.slot 16)) G = lenC (.own o) G := rfl
theorem setS16 : setC (con ⟨s0 :: s1 :: s2 :: s3 :: s4 :: s5 :: s6 :: s7 :: s8 :: s9 :: s10 :: s11 :: s12 :: s13 :: s14 :: s15 :: .own o :: r, W⟩ (.slot 16)) y d V = setC (.own o) y d V := rfl
theorem conS16 : con ⟨s0 :: s1 :: s2 :: s3 :: s4 :: s5 :: s6 :: s7 :: s8 :: s9 :: s10 :: s11 :: s12 :: s13 :: s14 :: s15 :: .own o :: r, W⟩ (.slot 16) = .own o := rfl
theorem putS16 : putC ⟨s0 :: s1 :: s2 :: s3 :: s4 :: s5 :: s6 :: s7 :: s8 :: s9 :: s10 :: s11 :: s12 :: s13 :: s14 :: s15 :: s16 :: r, W⟩ (.slot 16) u = ⟨s0 :: s1 :: s2 :: s3 :: s4 :: s5 :: s6 :: s7 :: s8 :: s9 :: s10 :: s11 :: s12 :: s13 :: s14 :: s15 :: .own u :: r, W⟩ := rfl
theorem pVarV17 : pVar 17 ⟨s0 :: s1 :: s2 :: s3 :: s4 :: s5 :: s6 :: s7 :: s8 :: s9 :: s10 :: s11 :: s12 :: s13 :: s14 :: s15 :: s16 :: .val d :: r, W⟩ Q E = Q d ⟨s0 :: s1 :: s2 :: s3 :: s4 :: s5 :: s6 :: s7 :: s8 :: s9 :: s10 :: s11 :: s12 :: s13 :: s14 :: s15 :: s16 :: .val d :: r, W⟩ := rfl
theorem pVarL17 : pVar 17 ⟨s0 :: s1 :: s2 :: s3 :: s4 :: s5 :: s6 :: s7 :: s8 :: s9 :: s10 :: s11 :: s12 :: s13 :: s14 :: s15 :: s16 :: .own (.lst xs) :: r, W⟩ Q E = Q (.lst xs) ⟨s0 :: s1 :: s2 :: s3 :: s4 :: s5 :: s6 :: s7 :: s8 :: s9 :: s10 :: s11 :: s12 :: s13 :: s14 :: s15 :: s16 :: .val (.lst xs) :: r, W⟩ := rfl
theorem pVarD17 : pVar 17 ⟨s0 :: s1 :: s2 :: s3 :: s4 :: s5 :: s6 :: s7 :: s8 :: s9 :: s10 :: s11 :: s12 :: s13 :: s14 :: s15 :: s16 :: .own (.dct ks vs) :: r, W⟩ Q E = Q (.dct ks vs) ⟨s0 :: s1 :: s2 :: s3 :: s4 :: s5 :: s6 :: s7 :: s8 :: s9 :: s10 :: s11 :: s12 :: s13 :: s14 :: s15 :: s16 :: .val (.dct ks vs) :: r, W⟩ := rfl
theorem pkVarV17 : pkVar 17 ⟨s0 :: s1 :: s2 :: s3 :: s4 :: s5 :: s6 :: s7 :: s8 :: s9 :: s10 :: s11 :: s12 :: s13 :: s14 :: s15 :: s16 :: .val d :: r, W⟩ U E = U (.val d) ⟨s0 :: s1 :: s2 :: s3 :: s4 :: s5 :: s6 :: s7 :: s8 :: s9 :: s10 :: s11 :: s12 :: s13 :: s14 :: s15 :: s16 :: .val d :: r, W⟩ := rfl
theorem pkVarO17 : pkVar 17 ⟨s0 :: s1 :: s2 :: s3 :: s4 :: s5 :: s6 :: s7 :: s8 :: s9 :: s10 :: s11 :: s12 :: s13 :: s14 :: s15 :: s16 :: .own o :: r, W⟩ U E = U (.slot 17) ⟨s0 :: s1 :: s2 :: s3 :: s4 :: s5 :: s6 :: s7 :: s8 :: s9 :: s10 :: s11 :: s12 :: s13 :: s14 :: s15 :: s16 :: .own o :: r, W⟩ := rfl
theorem kSetN17 : kSet 17 P d ⟨s0 :: s1 :: s2 :: s3 :: s4 :: s5 :: s6 :: s7 :: s8 :: s9 :: s10 :: s11 :: s12 :: s13 :: s14 :: s15 :: s16 :: s17 :: r, W⟩ = P.nx ⟨s0 :: s1 :: s2 :: s3 :: s4 :: s5 :: s6 :: s7 :: s8 :: s9 :: s10 :: s11 :: s12 :: s13 :: s14 :: s15 :: s16 :: .val d :: r, W⟩ := rfl
theorem kSetO_N17 : kSetO 17 P o ⟨s0 :: s1 :: s2 :: s3 :: s4 :: s5 :: s6 :: s7 :: s8 :: s9 :: s10 :: s11 :: s12 :: s13 :: s14 :: s15 :: s16 :: s17 :: r, W⟩ = P.nx ⟨s0 :: s1 :: s2 :: s3 :: s4 :: s5 :: s6 :: s7 :: s8 :: s9 :: s10 :: s11 :: s12 :: s13 :: s14 :: s15 :: s16 :: .own o :: r, W⟩ := rfl
theorem pgNameN17 : pgName 17 d ⟨s0 :: s1 :: s2 :: s3 :: s4 :: s5 :: s6 :: s7 :: s8 :: s9 :: s10 :: s11 :: s12 :: s13 :: s14 :: s15 :: s16 :: s17 :: r, W⟩ T = T ⟨s0 :: s1 :: s2 :: s3 :: s4 :: s5 :: s6 :: s7 :: s8 :: s9 :: s10 :: s11 :: s12 :: s13 :: s14 :: s15 :: s16 :: .val d :: r, W⟩ := rfl
theorem ixS17 : ixC (con ⟨s0 :: s1 :: s2 :: s3 :: s4 :: s5 :: s6 :: s7 :: s8 :: s9 :: s10 :: s11 :: s12 :: s13 :: s14 :: s15 :: s16 :: .own o :: r, W⟩ (.slot 17)) y G = ixC (.own o) y G := rfl
theorem lenS17 : lenC (con ⟨s0 :: s1 :: s2 :: s3 :: s4 :: s5 :: s6 :: s7 :: s8 :: s9 :: s10 :: s11 :: s12 :: s13 :: s14 :: s15 :: s16 :: .own o :: r, W⟩ (.slot 17)) G = lenC (.own o) G := rfl
theorem setS17 : setC (con ⟨s0 :: s1 :: s2 :: s3 :: s4 :: s5 :: s6 :: s7 :: s8 :: s9 :: s10 :: s11 :: s12 :: s13 :: s14 :: s15 :: s16 :: .own o :: r, W⟩ (.slot 17)) y d V = setC (.own o) y d V := rfl
theorem conS17 : con ⟨s0 :: s1 :: s2 :: s3 :: s4 :: s5 :: s6 :: s7 :: s8 :: s9 :: s10 :: s11 :: s12 :: s13 :: s14 :: s15 :: s16 :: .own o :: r, W⟩ (.slot 17) = .own o := rfl
theorem putS17 : putC ⟨s0 :: s1 :: s2 :: s3 :: s4 :: s5 :: s6 :: s7 :: s8 :: s9 :: s10 :: s11 :: s12 :: s13 :: s14 :: s15 :: s16 :: s17 :: r, W⟩ (.slot 17) u = ⟨s0 :: s1 :: s2 :: s3 :: s4 :: s5 :: s6 :: s7 :: s8 :: s9 :: s10 :: s11 :: s12 :: s13 :: s14 :: s15 :: s16 :: .own u :: r, W⟩ := rfl
theorem pVarV18 : pVar 18 ⟨s0 :: s1 :: s2 :: s3 :: s4 :: s5 :: s6 :: s7 :: s8 :: s9 :: s10 :: s11 :: s12 :: s13 :: s14 :: s15 :: s16 :: s17 :: .val d :: r, W⟩ Q E = Q d ⟨s0 :: s1 :: s2 :: s3 :: s4 :: s5 :: s6 :: s7 :: s8 :: s9 :: s10 :: s11 :: s12 :: s13 :: s14 :: s15 :: s16 :: s17 :: .val d :: r, W⟩ := rfl
theorem pVarL18 : pVar 18 ⟨s0 :: s1 :: s2 :: s3 :: s4 :: s5 :: s6 :: s7 :: s8 :: s9 :: s10 :: s11 :: s12 :: s13 :: s14 :: s15 :: s16 :: s17 :: .own (.lst xs) :: r, W⟩ Q E = Q (.lst xs) ⟨s0 :: s1 :: s2 :: s3 :: s4 :: s5 :: s6 :: s7 :: s8 :: s9 :: s10 :: s11 :: s12 :: s13 :: s14 :: s15 :: s16 :: s17 :: .val (.lst xs) :: r, W⟩ := rfl
theorem pVarD18 : pVar 18 ⟨s0 :: s1 :: s2 :: s3 :: s4 :: s5 :: s6 :: s7 :: s8 :: s9 :: s10 :: s11 :: s12 :: s13 :: s14 :: s15 :: s16 :: s17 :: .own (.dct ks vs) :: r, W⟩ Q E = Q (.dct ks vs) ⟨s0 :: s1 :: s2 :: s3 :: s4 :: s5 :: s6 :: s7 :: s8 :: s9 :: s10 :: s11 :: s12 :: s13 :: s14 :: s15 :: s16 :: s17 :: .val (.dct ks vs) :: r, W⟩ := rfl
theorem pkVarV18 : pkVar 18 ⟨s0 :: s1 :: s2 :: s3 :: s4 :: s5 :: s6 :: s7 :: s8 :: s9 :: s10 :: s11 :: s12 :: s13 :: s14 :: s15 :: s16 :: s17 :: .val d :: r, W⟩ U E = U (.val d) ⟨s0 :: s1 :: s2 :: s3 :: s4 :: s5 :: s6 :: s7 :: s8 :: s9 :: s10 :: s11 :: s12 :: s13 :: s14 :: s15 :: s16 :: s17 :: .val d :: r, W⟩ := rfl
theorem pkVarO18 : pkVar 18 ⟨s0 :: s1 :: s2 :: s3 :: s4 :: s5 :: s6 :: s7 :: s8 :: s9 :: s10 :: s11 :: s12 :: s13 :: s14 :: s15 :: s16 :: s17 :: .own o :: r, W⟩ U E = U (.slot 18) ⟨s0 :: s1 :: s2 :: s3 :: s4 :: s5 :: s6 :: s7 :: s8 :: s9 :: s10 :: s11 :: s12 :: s13 :: s14 :: s15 :: s16 :: s17 :: .own o :: r, W⟩ := rfl
theorem kSetN18 : kSet 18 P d ⟨s0 :: s1 :: s2 :: s3 :: s4 :: s5 :: s6 :: s7 :: s8 :: s9 :: s10 :: s11 :: s12 :: s13 :: s14 :: s15 :: s16 :: s17 :: s18 :: r, W⟩ = P.nx ⟨s0 :: s1 :: s2 :: s3 :: s4 :: s5 :: s6 :: s7 :: s8 :: s9 :: s10 :: s11 :: s12 :: s13 :: s14 :: s15 :: s16 :: s17 :: .val d :: r, W⟩ := rfl
theorem kSetO_N18 : kSetO 18 P o ⟨s0 :: s1 :: s2 :: s3 :: s4 :: s5 :: s6 :: s7 :: s8 :: s9 :: s10 :: s11 :: s12 :: s13 :: s14 :: s15 :: s16 :: s17 :: s18 :: r, W⟩ = P.nx ⟨s0 :: s1 :: s2 :: s3 :: s4 :: s5 :: s6 :: s7 :: s8 :: s9 :: s10 :: s11 :: s12 :: s13 :: s14 :: s15 :: s16 :: s17 :: .own o :: r, W⟩ := rfl
theorem pgNameN18 : pgName 18 d ⟨s0 :: s1 :: s2 :: s3 :: s4 :: s5 :: s6 :: s7 :: s8 :: s9 :: s10 :: s11 :: s12 :: s13 :: s14 :: s15 :: s16 :: s17 :: s18 :: r, W⟩ T = T ⟨s0 :: s1 :: s2 :: s3 :: s4 :: s5 :: s6 :: s7 :: s8 :: s9 :: s10 :: s11 :: s12 :: s13 :: s14 :: s15 :: s16 :: s17 :: .val d :: r, W⟩ := rfl
theorem ixS18 : ixC (con ⟨s0 :: s1 :: s2 :: s3 :: s4 :: s5 :: s6 :: s7 :: s8 :: s9 :: s10 :: s11 :: s12 :: s13 :: s14 :: s15 :: s16 :: s17 :: .own o :: r, W⟩ (.slot 18)) y G = ixC (.own o) y G := rfl
theorem lenS18 : lenC (con ⟨s0 :: s1 :: s2 :: s3 :: s4 :: s5 :: s6 :: s7 :: s8 :: s9 :: s10 :: s11 :: s12 :: s13 :: s14 :: s15 :: s16 :: s17 :: .own o :: r, W⟩ (.slot 18)) G = lenC (.own o) G := rfl
theorem setS18 : setC (con ⟨s0 :: s1 :: s2 :: s3 :: s4 :: s5 :: s6 :: s7 :: s8 :: s9 :: s10 :: s11 :: s12 :: s13 :: s14 :: s15 :: s16 :: s17 :: .own o :: r, W⟩ (.slot 18)) y d V = setC (.own o) y d V := rfl
theorem conS18 : con ⟨s0 :: s1 :: s2 :: s3 :: s4 :: s5 :: s6 :: s7 :: s8 :: s9 :: s10 :: s11 :: s12 :: s13 :: s14 :: s15 :: s16 :: s17 :: .own o :: r, W⟩ (.slot 18) = .own o := rfl
theorem putS18 : putC ⟨s0 :: s1 :: s2 :: s3 :: s4 :: s5 :: s6 :: s7 :: s8 :: s9 :: s10 :: s11 :: s12 :: s13 :: s14 :: s15 :: s16 :: s17 :: s18 :: r, W⟩ (.slot 18) u = ⟨s0 :: s1 :: s2 :: s3 :: s4 :: s5 :: s6 :: s7 :: s8 :: s9 :: s10 :: s11 :: s12 :: s13 :: s14 :: s15 :: s16 :: s17 :: .own u :: r, W⟩ := rfl
theorem pVarV19 : pVar 19 ⟨s0 :: s1 :: s2 :: s3 :: s4 :: s5 :: s6 :: s7 :: s8 :: s9 :: s10 :: s11 :: s12 :: s13 :: s14 :: s15 :: s16 :: s17 :: s18 :: .val d :: r, W⟩ Q E = Q d ⟨s0 :: s1 :: s2 :: s3 :: s4 :: s5 :: s6 :: s7 :: s8 :: s9 :: s10 :: s11 :: s12 :: s13 :: s14 :: s15 :: s16 :: s17 :: s18 :: .val d :: r, W⟩ := rfl
theorem pVarL19 : pVar 19 ⟨s0 :: s1 :: s2 :: s3 :: s4 :: s5 :: s6 :: s7 :: s8 :: s9 :: s10 :: s11 :: s12 :: s13 :: s14 :: s15 :: s16 :: s17 :: s18 :: .own (.lst xs) :: r, W⟩ Q E = Q (.lst xs) ⟨s0 :: s1 :: s2 :: s3 :: s4 :: s5 :: s6 :: s7 :: s8 :: s9 :: s10 :: s11 :: s12 :: s13 :: s14 :: s15 :: s16 :: s17 :: s18 :: .val (.lst xs) :: r, W⟩ := rfl
theorem pVarD19 : pVar 19 ⟨s0 :: s1 :: s2 :: s3 :: s4 :: s5 :: s6 :: s7 :: s8 :: s9 :: s10 :: s11 :: s12 :: s13 :: s14 :: s15 :: s16 :: s17 :: s18 :: .own (.dct ks vs) :: r, W⟩ Q E = Q (.dct ks vs) ⟨s0 :: s1 :: s2 :: s3 :: s4 :: s5 :: s6 :: s7 :: s8 :: s9 :: s10 :: s11 :: s12 :: s13 :: s14 :: s15 :: s16 :: s17 :: s18 :: .val (.dct ks vs) :: r, W⟩ := rfl
theorem pkVarV19 : pkVar 19 ⟨s0 :: s1 :: s2 :: s3 :: s4 :: s5 :: s6 :: s7 :: s8 :: s9 :: s10 :: s11 :: s12 :: s13 :: s14 :: s15 :: s16 :: s17 :: s18 :: .val d :: r, W⟩ U E = U (.val d) ⟨s0 :: s1 :: s2 :: s3 :: s4 :: s5 :: s6 :: s7 :: s8 :: s9 :: s10 :: s11 :: s12 :: s13 :: s14 :: s15 :: s16 :: s17 :: s18 :: .val d :: r, W⟩ := rfl
theorem pkVarO19 : pkVar 19 ⟨s0 :: s1 :: s2 :: s3 :: s4 :: s5 :: s6 :: s7 :: s8 :: s9 :: s10 :: s11 :: s12 :: s13 :: s14 :: s15 :: s16 :: s17 :: s18 :: .own o :: r, W⟩ U E = U (.slot 19) ⟨s0 :: s1 :: s2 :: s3 :: s4 :: s5 :: s6 :: s7 :: s8 :: s9 :: s10 :: s11 :: s12 :: s13 :: s14 :: s15 :: s16 :: s17 :: s18 :: .own o :: r, W⟩ := rfl
theorem kSetN19 : kSet 19 P d ⟨s0 :: s1 :: s2 :: s3 :: s4 :: s5 :: s6 :: s7 :: s8 :: s9 :: s10 :: s11 :: s12 :: s13 :: s14 :: s15 :: s16 :: s17 :: s18 :: s19 :: r, W⟩ = P.nx ⟨s0 :: s1 :: s2 :: s3 :: s4 :: s5 :: s6 :: s7 :: s8 :: s9 :: s10 :: s11 :: s12 :: s13 :: s14 :: s15 :: s16 :: s17 :: s18 :: .val d :: r, W⟩ := rfl
theorem kSetO_N19 : kSetO 19 P o ⟨s0 :: s1 :: s2 :: s3 :: s4 :: s5 :: s6 :: s7 :: s8 :: s9 :: s10 :: s11 :: s12 :: s13 :: s14 :: s15 :: s16 :: s17 :: s18 :: s19 :: r, W⟩ = P.nx ⟨s0 :: s1 :: s2 :: s3 :: s4 :: s5 :: s6 :: s7 :: s8 :: s9 :: s10 :: s11 :: s12 :: s13 :: s14 :: s15 :: s16 :: s17 :: s18 :: .own o :: r, W⟩ := rfl
theorem pgNameN19 : pgName 19 d ⟨s0 :: s1 :: s2 :: s3 :: s4 :: s5 :: s6 :: s7 :: s8 :: s9 :: s10 :: s11 :: s12 :: s13 :: s14 :: s15 :: s16 :: s17 :: s18 :: s19 :: r, W⟩ T = T ⟨s0 :: s1 :: s2 :: s3 :: s4 :: s5 :: s6 :: s7 :: s8 :: s9 :: s10 :: s11 :: s12 :: s13 :: s14 :: s15 :: s16 :: s17 :: s18 :: .val d :: r, W⟩ := rfl
theorem ixS19 : ixC (con ⟨s0 :: s1 :: s2 :: s3 :: s4 :: s5 :: s6 :: s7 :: s8 :: s9 :: s10 :: s11 :: s12 :: s13 :: s14 :: s15 :: s16 :: s17 :: s18 :: .own o :: r, W⟩ (.slot 19)) y G = ixC (.own o) y G := rfl
theorem lenS19 : lenC (con ⟨s0 :: s1 :: s2 :: s3 :: s4 :: s5 :: s6 :: s7 :: s8 :: s9 :: s10 :: s11 :: s12 :: s13 :: s14 :: s15 :: s16 :: s17 :: s18 :: .own o :: r, W⟩ (.slot 19)) G = lenC (.own o) G := rfl
theorem setS19 : setC (con ⟨s0 :: s1 :: s2 :: s3 :: s4 :: s5 :: s6 :: s7 :: s8 :: s9 :: s10 :: s11 :: s12 :: s13 :: s14 :: s15 :: s16 :: s17 :: s18 :: .own o :: r, W⟩ (.slot 19)) y d V = setC (.own o) y d V := rfl
theorem conS19 : con ⟨s0 :: s1 :: s2 :: s3 :: s4 :: s5 :: s6 :: s7 :: s8 :: s9 :: s10 :: s11 :: s12 :: s13 :: s14 :: s15 :: s16 :: s17 :: s18 :: .own o :: r, W⟩ (.slot 19) = .own o := rfl
theorem putS19 : putC ⟨s0 :: s1 :: s2 :: s3 :: s4 :: s5 :: s6 :: s7 :: s8 :: s9 :: s10 :: s11 :: s12 :: s13 :: s14 :: s15 :: s16 :: s17 :: s18 :: s19 :: r, W⟩ (.slot 19) u = ⟨s0 :: s1 :: s2 :: s3 :: s4 :: s5 :: s6 :: s7 :: s8 :: s9 :: s10 :: s11 :: s12 :: s13 :: s14 :: s15 :: s16 :: s17 :: s18 :: .own u :: r, W⟩ := rfl
theorem pVarV20 : pVar 20 ⟨s0 :: s1 :: s2 :: s3 :: s4 :: s5 :: s6 :: s7 :: s8 :: s9 :: s10 :: s11 :: s12 :: s13 :: s14 :: s15 :: s16 :: s17 :: s18 :: s19 :: .val d :: r, W⟩ Q E = Q d ⟨s0 :: s1 :: s2 :: s3 :: s4 :: s5 :: s6 :: s7 :: s8 :: s9 :: s10 :: s11 :: s12 :: s13 :: s14 :: s15 :: s16 :: s17 :: s18 :: s19 :: .val d :: r, W⟩ := rfl
theorem pVarL20 : pVar 20 ⟨s0 :: s1 :: s2 :: s3 :: s4 :: s5 :: s6 :: s7 :: s8 :: s9 :: s10 :: s11 :: s12 :: s13 :: s14 :: s15 :: s16 :: s17 :: s18 :: s19 :: .own (.lst xs) :: r, W⟩ Q E = Q (.lst xs) ⟨s0 :: s1 :: s2 :: s3 :: s4 :: s5 :: s6 :: s7 :: s8 :: s9 :: s10 :: s11 :: s12 :: s13 :: s14 :: s15 :: s16 :: s17 :: s18 :: s19 :: .val (.lst xs) :: r, W⟩ := rfl
theorem pVarD20 : pVar 20 ⟨s0 :: s1 :: s2 :: s3 :: s4 :: s5 :: s6 :: s7 :: s8 :: s9 :: s10 :: s11 :: s12 :: s13 :: s14 :: s15 :: s16 :: s17 :: s18 :: s19 :: .own (.dct ks vs) :: r, W⟩ Q E = Q (.dct ks vs) ⟨s0 :: s1 :: s2 :: s3 :: s4 :: s5 :: s6 :: s7 :: s8 :: s9 :: s10 :: s11 :: s12 :: s13 :: s14 :: s15 :: s16 :: s17 :: s18 :: s19 :: .val (.dct ks vs) :: r, W⟩ := rfl
theorem pkVarV20 : pkVar 20 ⟨s0 :: s1 :: s2 :: s3 :: s4 :: s5 :: s6 :: s7 :: s8 :: s9 :: s10 :: s11 :: s12 :: s13 :: s14 :: s15 :: s16 :: s17 :: s18 :: s19 :: .val d :: r, W⟩ U E = U (.val d) ⟨s0 :: s1 :: s2 :: s3 :: s4 :: s5 :: s6 :: s7 :: s8 :: s9 :: s10 :: s11 :: s12 :: s13 :: s14 :: s15 :: s16 :: s17 :: s18 :: s19 :: .val d :: r, W⟩ := rfl
theorem pkVarO20 : pkVar 20 ⟨s0 :: s1 :: s2 :: s3 :: s4 :: s5 :: s6 :: s7 :: s8 :: s9 :: s10 :: s11 :: s12 :: s13 :: s14 :: s15 :: s16 :: s17 :: s18 :: s19 :: .own o :: r, W⟩ U E = U (.slot 20) ⟨s0 :: s1 :: s2 :: s3 :: s4 :: s5 :: s6 :: s7 :: s8 :: s9 :: s10 :: s11 :: s12 :: s13 :: s14 :: s15 :: s16 :: s17 :: s18 :: s19 :: .own o :: r, W⟩ := rfl
theorem kSetN20 : kSet 20 P d ⟨s0 :: s1 :: s2 :: s3 :: s4 :: s5 :: s6 :: s7 :: s8 :: s9 :: s10 :: s11 :: s12 :: s13 :: s14 :: s15 :: s16 :: s17 :: s18 :: s19 :: s20 :: r, W⟩ = P.nx ⟨s0 :: s1 :: s2 :: s3 :: s4 :: s5 :: s6 :: s7 :: s8 :: s9 :: s10 :: s11 :: s12 :: s13 :: s14 :: s15 :: s16 :: s17 :: s18 :: s19 :: .val d :: r, W⟩ := rfl
theorem kSetO_N20 : kSetO 20 P o ⟨s0 :: s1 :: s2 :: s3 :: s4 :: s5 :: s6 :: s7 :: s8 :: s9 :: s10 :: s11 :: s12 :: s13 :: s14 :: s15 :: s16 :: s17 :: s18 :: s19 :: s20 :: r, W⟩ = P.nx ⟨s0 :: s1 :: s2 :: s3 :: s4 :: s5 :: s6 :: s7 :: s8 :: s9 :: s10 :: s11 :: s12 :: s13 :: s14 :: s15 :: s16 :: s17 :: s18 :: s19 :: .own o :: r, W⟩ := rfl
theorem pgNameN20 : pgName 20 d ⟨s0 :: s1 :: s2 :: s3 :: s4 :: s5 :: s6 :: s7 :: s8 :: s9 :: s10 :: s11 :: s12 :: s13 :: s14 :: s15 :: s16 :: s17 :: s18 :: s19 :: s20 :: r, W⟩ T = T ⟨s0 :: s1 :: s2 :: s3 :: s4 :: s5 :: s6 :: s7 :: s8 :: s9 :: s10 :: s11 :: s12 :: s13 :: s14 :: s15 :: s16 :: s17 :: s18 :: s19 :: .val d :: r, W⟩ := rfl
theorem ixS20 : ixC (con ⟨s0 :: s1 :: s2 :: s3 :: s4 :: s5 :: s6 :: s7 :: s8 :: s9 :: s10 :: s11 :: s12 :: s13 :: s14 :: s15 :: s16 :: s17 :: s18 :: s19 :: .own o :: r, W⟩ (.slot 20)) y G = ixC (.own o) y G := rfl
theorem lenS20 : lenC (con ⟨s0 :: s1 :: s2 :: s3 :: s4 :: s5 :: s6 :: s7 :: s8 :: s9 :: s10 :: s11 :: s12 :: s13 :: s14 :: s15 :: s16 :: s17 :: s18 :: s19 :: .own o :: r, W⟩ (.slot 20)) G = lenC (.own o) G := rfl
theorem setS20 : setC (con ⟨s0 :: s1 :: s2 :: s3 :: s4 :: s5 :: s6 :: s7 :: s8 :: s9 :: s10 :: s11 :: s12 :: s13 :: s14 :: s15 :: s16 :: s17 :: s18 :: s19 :: .own o :: r, W⟩ (.slot 20)) y d V = setC (.own o) y d V := rfl
theorem conS20 : con ⟨s0 :: s1 :: s2 :: s3 :: s4 :: s5 :: s6 :: s7 :: s8 :: s9 :: s10 :: s11 :: s12 :: s13 :: s14 :: s15 :: s16 :: s17 :: s18 :: s19 :: .own o :: r, W⟩ (.slot 20) = .own o := rfl
theorem putS20 : putC ⟨s0 :: s1 :: s2 :: s3 :: s4 :: s5 :: s6 :: s7 :: s8 :: s9 :: s10 :: s11 :: s12 :: s13 :: s14 :: s15 :: s16 :: s17 :: s18 :: s19 :: s20 :: r, W⟩ (.slot 20) u = ⟨s0 :: s1 :: s2 :: s3 :: s4 :: s5 :: s6 :: s7 :: s8 :: s9 :: s10 :: s11 :: s12 :: s13 :: s14 :: s15 :: s16 :: s17 :: s18 :: s19 :: .own u :: r, W⟩ := rfl
theorem pVarV21 : pVar 21 ⟨s0 :: s1 :: s2 :: s3 :: s4 :: s5 :: s6 :: s7 :: s8 :: s9 :: s10 :: s11 :: s12 :: s13 :: s14 :: s15 :: s16 :: s17 :: s18 :: s19 :: s20 :: .val d :: r, W⟩ Q E = Q d ⟨s0 :: s1 :: s2 :: s3 :: s4 :: s5 :: s6 :: s7 :: s8 :: s9 :: s10 :: s11 :: s12 :: s13 :: s14 :: s15 :: s16 :: s17 :: s18 :: s19 :: s20 :: .val d :: r, W⟩ := rfl
theorem pVarL21 : pVar 21 ⟨s0 :: s1 :: s2 :: s3 :: s4 :: s5 :: s6 :: s7 :: s8 :: s9 :: s10 :: s11 :: s12 :: s13 :: s14 :: s15 :: s16 :: s17 :: s18 :: s19 :: s20 :: .own (.lst xs) :: r, W⟩ Q E = Q (.lst xs) ⟨s0 :: s1 :: s2 :: s3 :: s4 :: s5 :: s6 :: s7 :: s8 :: s9 :: s10 :: s11 :: s12 :: s13 :: s14 :: s15 :: s16 :: s17 :: s18 :: s19 :: s20 :: .val (.lst xs) :: r, W⟩ := rfl
theorem pVarD21 : pVar 21 ⟨s0 :: s1 :: s2 :: s3 :: s4 :: s5 :: s6 :: s7 :: s8 :: s9 :: s10 :: s11 :: s12 :: s13 :: s14 :: s15 :: s16 :: s17 :: s18 :: s19 :: s20 :: .own (.dct ks vs) :: r, W⟩ Q E = Q (.dct ks vs) ⟨s0 :: s1 :: s2 :: s3 :: s4 :: s5 :: s6 :: s7 :: s8 :: s9 :: s10 :: s11 :: s12 :: s13 :: s14 :: s15 :: s16 :: s17 :: s18 :: s19 :: s20 :: .val (.dct ks vs) :: r, W⟩ := rfl
theorem pkVarV21 : pkVar 21 ⟨s0 :: s1 :: s2 :: s3 :: s4 :: s5 :: s6 :: s7 :: s8 :: s9 :: s10 :: s11 :: s12 :: s13 :: s14 :: s15 :: s16 :: s17 :: s18 :: s19 :: s20 :: .val d :: r, W⟩ U E = U (.val d) ⟨s0 :: s1 :: s2 :: s3 :: s4 :: s5 :: s6 :: s7 :: s8 :: s9 :: s10 :: s11 :: s12 :: s13 :: s14 :: s15 :: s16 :: s17 :: s18 :: s19 :: s20 :: .val d :: r, W⟩ := rfl
theorem pkVarO21 : pkVar 21 ⟨s0 :: s1 :: s2 :: s3 :: s4 :: s5 :: s6 :: s7 :: s8 :: s9 :: s10 :: s11 :: s12 :: s13 :: s14 :: s15 :: s16 :: s17 :: s18 :: s19 :: s20 :: .own o :: r, W⟩ U E = U (.slot 21) ⟨s0 :: s1 :: s2 :: s3 :: s4 :: s5 :: s6 :: s7 :: s8 :: s9 :: s10 :: s11 :: s12 :: s13 :: s14 :: s15 :: s16 :: s17 :: s18 :: s19 :: s20 :: .own o :: r, W⟩ := rfl
theorem kSetN21 : kSet 21 P d ⟨s0 :: s1 :: s2 :: s3 :: s4 :: s5 :: s6 :: s7 :: s8 :: s9 :: s10 :: s11 :: s12 :: s13 :: s14 :: s15 :: s16 :: s17 :: s18 :: s19 :: s20 :: s21 :: r, W⟩ = P.nx ⟨s0 :: s1 :: s2 :: s3 :: s4 :: s5 :: s6 :: s7 :: s8 :: s9 :: s10 :: s11 :: s12 :: s13 :: s14 :: s15 :: s16 :: s17 :: s18 :: s19 :: s20 :: .val d :: r, W⟩ := rfl
theorem kSetO_N21 : kSetO 21 P o ⟨s0 :: s1 :: s2 :: s3 :: s4 :: s5 :: s6 :: s7 :: s8 :: s9 :: s10 :: s11 :: s12 :: s13 :: s14 :: s15 :: s16 :: s17 :: s18 :: s19 :: s20 :: s21 :: r, W⟩ = P.nx ⟨s0 :: s1 :: s2 :: s3 :: s4 :: s5 :: s6 :: s7 :: s8 :: s9 :: s10 :: s11 :: s12 :: s13 :: s14 :: s15 :: s16 :: s17 :: s18 :: s19 :: s20 :: .own o :: r, W⟩ := rfl
theorem pgNameN21 : pgName 21 d ⟨s0 :: s1 :: s2 :: s3 :: s4 :: s5 :: s6 :: s7 :: s8 :: s9 :: s10 :: s11 :: s12 :: s13 :: s14 :: s15 :: s16 :: s17 :: s18 :: s19 :: s20 :: s21 :: r, W⟩ T = T ⟨s0 :: s1 :: s2 :: s3 :: s4 :: s5 :: s6 :: s7 :: s8 :: s9 :: s10 :: s11 :: s12 :: s13 :: s14 :: s15 :: s16 :: s17 :: s18 :: s19 :: s20 :: .val d :: r, W⟩ := rfl
theorem ixS21 : ixC (con ⟨s0 :: s1 :: s2 :: s3 :: s4 :: s5 :: s6 :: s7 :: s8 :: s9 :: s10 :: s11 :: s12 :: s13 :: s14 :: s15 :: s16 :: s17 :: s18 :: s19 :: s20 :: .own o :: r, W⟩ (.slot 21)) y G = ixC (.own o) y G := rfl
theorem lenS21 : lenC (con ⟨s0 :: s1 :: s2 :: s3 :: s4 :: s5 :: s6 :: s7 :: s8 :: s9 :: s10 :: s11 :: s12 :: s13 :: s14 :: s15 :: s16 :: s17 :: s18 :: s19 :: s20 :: .own o :: r, W⟩ (.slot 21)) G = lenC (.own o) G := rfl
theorem setS21 : setC (con ⟨s0 :: s1 :: s2 :: s3 :: s4 :: s5 :: s6 :: s7 :: s8 :: s9 :: s10 :: s11 :: s12 :: s13 :: s14 :: s15 :: s16 :: s17 :: s18 :: s19 :: s20 :: .own o :: r, W⟩ (.slot 21)) y d V = setC (.own o) y d V := rfl
theorem conS21 : con ⟨s0 :: s1 :: s2 :: s3 :: s4 :: s5 :: s6 :: s7 :: s8 :: s9 :: s10 :: s11 :: s12 :: s13 :: s14 :: s15 :: s16 :: s17 :: s18 :: s19 :: s20 :: .own o :: r, W⟩ (.slot 21) = .own o := rfl
theorem putS21 : putC ⟨s0 :: s1 :: s2 :: s3 :: s4 :: s5 :: s6 :: s7 :: s8 :: s9 :: s10 :: s11 :: s12 :: s13 :: s14 :: s15 :: s16 :: s17 :: s18 :: s19 :: s20 :: s21 :: r, W⟩ (.slot 21) u = ⟨s0 :: s1 :: s2 :: s3 :: s4 :: s5 :: s6 :: s7 :: s8 :: s9 :: s10 :: s11 :: s12 :: s13 :: s14 :: s15 :: s16 :: s17 :: s18 :: s19 :: s20 :: .own u :: r, W⟩ := rfl
theorem pVarV22 : pVar 22 ⟨s0 :: s1 :: s2 :: s3 :: s4 :: s5 :: s6 :: s7 :: s8 :: s9 :: s10 :: s11 :: s12 :: s13 :: s14 :: s15 :: s16 :: s17 :: s18 :: s19 :: s20 :: s21 :: .val d :: r, W⟩ Q E = Q d ⟨s0 :: s1 :: s2 :: s3 :: s4 :: s5 :: s6 :: s7 :: s8 :: s9 :: s10 :: s11 :: s12 :: s13 :: s14 :: s15 :: s16 :: s17 :: s18 :: s19 :: s20 :: s21 :: .val d :: r, W⟩ := rfl
theorem pVarL22 : pVar 22 ⟨s0 :: s1 :: s2 :: s3 :: s4 :: s5 :: s6 :: s7 :: s8 :: s9 :: s10 :: s11 :: s12 :: s13 :: s14 :: s15 :: s16 :: s17 :: s18 :: s19 :: s20 :: s21 :: .own (.lst xs) :: r, W⟩ Q E = Q (.lst xs) ⟨s0 :: s1 :: s2 :: s3 :: s4 :: s5 :: s6 :: s7 :: s8 :: s9 :: s10 :: s11 :: s12 :: s13 :: s14 :: s15 :: s16 :: s17 :: s18 :: s19 :: s20 :: s21 :: .val (.lst xs) :: r, W⟩ := rfl
theorem pVarD22 : pVar 22 ⟨s0 :: s1 :: s2 :: s3 :: s4 :: s5 :: s6 :: s7 :: s8 :: s9 :: s10 :: s11 :: s12 :: s13 :: s14 :: s15 :: s16 :: s17 :: s18 :: s19 :: s20 :: s21 :: .own (.dct ks vs) :: r, W⟩ Q E = Q (.dct ks vs) ⟨s0 :: s1 :: s2 :: s3 :: s4 :: s5 :: s6 :: s7 :: s8 :: s9 :: s10 :: s11 :: s12 :: s13 :: s14 :: s15 :: s16 :: s17 :: s18 :: s19 :: s20 :: s21 :: .val (.dct ks vs) :: r, W⟩ := rfl
theorem pkVarV22 : pkVar 22 ⟨s0 :: s1 :: s2 :: s3 :: s4 :: s5 :: s6 :: s7 :: s8 :: s9 :: s10 :: s11 :: s12 :: s13 :: s14 :: s15 :: s16 :: s17 :: s18 :: s19 :: s20 :: s21 :: .val d :: r, W⟩ U E = U (.val d) ⟨s0 :: s1 :: s2 :: s3 :: s4 :: s5 :: s6 :: s7 :: s8 :: s9 :: s10 :: s11 :: s12 :: s13 :: s14 :: s15 :: s16 :: s17 :: s18 :: s19 :: s20 :: s21 :: .val d :: r, W⟩ := rfl
theorem pkVarO22 : pkVar 22 ⟨s0 :: s1 :: s2 :: s3 :: s4 :: s5 :: s6 :: s7 :: s8 :: s9 :: s10 :: s11 :: s12 :: s13 :: s14 :: s15 :: s16 :: s17 :: s18 :: s19 :: s20 :: s21 :: .own o :: r, W⟩ U E = U (.slot 22) ⟨s0 :: s1 :: s2 :: s3 :: s4 :: s5 :: s6 :: s7 :: s8 :: s9 :: s10 :: s11 :: s12 :: s13 :: s14 :: s15 :: s16 :: s17 :: s18 :: s19 :: s20 :: s21 :: .own o :: r, W⟩ := rfl
theorem kSetN22 : kSet 22 P d ⟨s0 :: s1 :: s2 :: s3 :: s4 :: s5 :: s6 :: s7 :: s8 :: s9 :: s10 :: s11 :: s12 :: s13 :: s14 :: s15 :: s16 :: s17 :: s18 :: s19 :: s20 :: s21 :: s22 :: r, W⟩ = P.nx ⟨s0 :: s1 :: s2 :: s3 :: s4 :: s5 :: s6 :: s7 :: s8 :: s9 :: s10 :: s11 :: s12 :: s13 :: s14 :: s15 :: s16 :: s17 :: s18 :: s19 :: s20 :: s21 :: .val d :: r, W⟩ := rfl
theorem kSetO_N22 : kSetO 22 P o ⟨s0 :: s1 :: s2 :: s3 :: s4 :: s5 :: s6 :: s7 :: s8 :: s9 :: s10 :: s11 :: s12 :: s13 :: s14 :: s15 :: s16 :: s17 :: s18 :: s19 :: s20 :: s21 :: s22 :: r, W⟩ = P.nx ⟨s0 :: s1 :: s2 :: s3 :: s4 :: s5 :: s6 :: s7 :: s8 :: s9 :: s10 :: s11 :: s12 :: s13 :: s14 :: s15 :: s16 :: s17 :: s18 :: s19 :: s20 :: s21 :: .own o :: r, W⟩ := rfl
theorem pgNameN22 : pgName 22 d ⟨s0 :: s1 :: s2 :: s3 :: s4 :: s5 :: s6 :: s7 :: s8 :: s9 :: s10 :: s11 :: s12 :: s13 :: s14 :: s15 :: s16 :: s17 :: s18 :: s19 :: s20 :: s21 :: s22 :: r, W⟩ T = T ⟨s0 :: s1 :: s2 :: s3 :: s4 :: s5 :: s6 :: s7 :: s8 :: s9 :: s10 :: s11 :: s12 :: s13 :: s14 :: s15 :: s16 :: s17 :: s18 :: s19 :: s20 :: s21 :: .val d :: r, W⟩ := rfl
theorem ixS22 : ixC (con ⟨s0 :: s1 :: s2 :: s3 :: s4 :: s5 :: s6 :: s7 :: s8 :: s9 :: s10 :: s11 :: s12 :: s13 :: s14 :: s15 :: s16 :: s17 :: s18 :: s19 :: s20 :: s21 :: .own o :: r, W⟩ (.slot 22)) y G = ixC (.own o) y G := rfl
theorem lenS22 : lenC (con ⟨s0 :: s1 :: s2 :: s3 :: s4 :: s5 :: s6 :: s7 :: s8 :: s9 :: s10 :: s11 :: s12 :: s13 :: s14 :: s15 :: s16 :: s17 :: s18 :: s19 :: s20 :: s21 :: .own o :: r, W⟩ (.slot 22)) G = lenC (.own o) G := rfl
theorem setS22 : setC (con ⟨s0 :: s1 :: s2 :: s3 :: s4 :: s5 :: s6 :: s7 :: s8 :: s9 :: s10 :: s11 :: s12 :: s13 :: s14 :: s15 :: s16 :: s17 :: s18 :: s19 :: s20 :: s21 :: .own o :: r, W⟩ (.slot 22)) y d V = setC (.own o) y d V := rfl
theorem conS22 : con ⟨s0 :: s1 :: s2 :: s3 :: s4 :: s5 :: s6 :: s7 :: s8 :: s9 :: s10 :: s11 :: s12 :: s13 :: s14 :: s15 :: s16 :: s17 :: s18 :: s19 :: s20 :: s21 :: .own o :: r, W⟩ (.slot 22) = .own o := rfl
theorem putS22 : putC ⟨s0 :: s1 :: s2 :: s3 :: s4 :: s5 :: s6 :: s7 :: s8 :: s9 :: s10 :: s11 :: s12 :: s13 :: s14 :: s15 :: s16 :: s17 :: s18 :: s19 :: s20 :: s21 :: s22 :: r, W⟩ (.slot 22) u = ⟨s0 :: s1 :: s2 :: s3 :: s4 :: s5 :: s6 :: s7 :: s8 :: s9 :: s10 :: s11 :: s12 :: s13 :: s14 :: s15 :: s16 :: s17 :: s18 :: s19 :: s20 :: s21 :: .own u :: r, W⟩ := rfl
theorem pVarV23 : pVar 23 ⟨s0 :: s1 :: s2 :: s3 :: s4 :: s5 :: s6 :: s7 :: s8 :: s9 :: s10 :: s11 :: s12 :: s13 :: s14 :: s15 :: s16 :: s17 :: s18 :: s19 :: s20 :: s21 :: s22 :: .val d :: r, W⟩ Q E = Q d ⟨s0 :: s1 :: s2 :: s3 :: s4 :: s5 :: s6 :: s7 :: s8 :: s9 :: s10 :: s11 :: s12 :: s13 :: s14 :: s15 :: s16 :: s17 :: s18 :: s19 :: s20 :: s21 :: s22 :: .val d :: r, W⟩ := rfl
theorem pVarL23 : pVar 23 ⟨s0 :: s1 :: s2 :: s3 :: s4 :: s5 :: s6 :: s7 :: s8 :: s9 :: s10 :: s11 :: s12 :: s13 :: s14 :: s15 :: s16 :: s17 :: s18 :: s19 :: s20 :: s21 :: s22 :: .own (.lst xs) :: r, W⟩ Q E = Q (.lst xs) ⟨s0 :: s1 :: s2 :: s3 :: s4 :: s5 :: s6 :: s7 :: s8 :: s9 :: s10 :: s11 :: s12 :: s13 :: s14 :: s15 :: s16 :: s17 :: s18 :: s19 :: s20 :: s21 :: s22 :: .val (.lst xs) :: r, W⟩ := rfl
theorem pVarD23 : pVar 23 ⟨s0 :: s1 :: s2 :: s3 :: s4 :: s5 :: s6 :: s7 :: s8 :: s9 :: s10 :: s11 :: s12 :: s13 :: s14 :: s15 :: s16 :: s17 :: s18 :: s19 :: s20 :: s21 :: s22 :: .own (.dct ks vs) :: r, W⟩ Q E = Q (.dct ks vs) ⟨s0 :: s1 :: s2 :: s3 :: s4 :: s5 :: s6 :: s7 :: s8 :: s9 :: s10 :: s11 :: s12 :: s13 :: s14 :: s15 :: s16 :: s17 :: s18 :: s19 :: s20 :: s21 :: s22 :: .val (.dct ks vs) :: r, W⟩ := rfl
theorem pkVarV23 : pkVar 23 ⟨s0 :: s1 :: s2 :: s3 :: s4 :: s5 :: s6 :: s7 :: s8 :: s9 :: s10 :: s11 :: s12 :: s13 :: s14 :: s15 :: s16 :: s17 :: s18 :: s19 :: s20 :: s21 :: s22 :: .val d :: r, W⟩ U E = U (.val d) ⟨s0 :: s1 :: s2 :: s3 :: s4 :: s5 :: s6 :: s7 :: s8 :: s9 :: s10 :: s11 :: s12 :: s13 :: s14 :: s15 :: s16 :: s17 :: s18 :: s19 :: s20 :: s21 :: s22 :: .val d :: r, W⟩ := rfl
theorem pkVarO23 : pkVar 23 ⟨s0 :: s1 :: s2 :: s3 :: s4 :: s5 :: s6 :: s7 :: s8 :: s9 :: s10 :: s11 :: s12 :: s13 :: s14 :: s15 :: s16 :: s17 :: s18 :: s19 :: s20 :: s21 :: s22 :: .own o :: r, W⟩ U E = U (.slot 23) ⟨s0 :: s1 :: s2 :: s3 :: s4 :: s5 :: s6 :: s7 :: s8 :: s9 :: s10 :: s11 :: s12 :: s13 :: s14 :: s15 :: s16 :: s17 :: s18 :: s19 :: s20 :: s21 :: s22 :: .own o :: r, W⟩ := rfl
theorem kSetN23 : kSet 23 P d ⟨s0 :: s1 :: s2 :: s3 :: s4 :: s5 :: s6 :: s7 :: s8 :: s9 :: s10 :: s11 :: s12 :: s13 :: s14 :: s15 :: s16 :: s17 :: s18 :: s19 :: s20 :: s21 :: s22 :: s23 :: r, W⟩ = P.nx ⟨s0 :: s1 :: s2 :: s3 :: s4 :: s5 :: s6 :: s7 :: s8 :: s9 :: s10 :: s11 :: s12 :: s13 :: s14 :: s15 :: s16 :: s17 :: s18 :: s19 :: s20 :: s21 :: s22 :: .val d :: r, W⟩ := rfl
theorem kSetO_N23 : kSetO 23 P o ⟨s0 :: s1 :: s2 :: s3 :: s4 :: s5 :: s6 :: s7 :: s8 :: s9 :: s10 :: s11 :: s12 :: s13 :: s14 :: s15 :: s16 :: s17 :: s18 :: s19 :: s20 :: s21 :: s22 :: s23 :: r, W⟩ = P.nx ⟨s0 :: s1 :: s2 :: s3 :: s4 :: s5 :: s6 :: s7 :: s8 :: s9 :: s10 :: s11 :: s12 :: s13 :: s14 :: s15 :: s16 :: s17 :: s18 :: s19 :: s20 :: s21 :: s22 :: .own o :: r, W⟩ := rfl
theorem pgNameN23 : pgName 23 d ⟨s0 :: s1 :: s2 :: s3 :: s4 :: s5 :: s6 :: s7 :: s8 :: s9 :: s10 :: s11 :: s12 :: s13 :: s14 :: s15 :: s16 :: s17 :: s18 :: s19 :: s20 :: s21 :: s22 :: s23 :: r, W⟩ T = T ⟨s0 :: s1 :: s2 :: s3 :: s4 :: s5 :: s6 :: s7 :: s8 :: s9 :: s10 :: s11 :: s12 :: s13 :: s14 :: s15 :: s16 :: s17 :: s18 :: s19 :: s20 :: s21 :: s22 :: .val d :: r, W⟩ := rfl
theorem ixS23 : ixC (con ⟨s0 :: s1 :: s2 :: s3 :: s4 :: s5 :: s6 :: s7 :: s8 :: s9 :: s10 :: s11 :: s12 :: s13 :: s14 :: s15 :: s16 :: s17 :: s18 :: s19 :: s20 :: s21 :: s22 :: .own o :: r, W⟩ (.slot 23)) y G = ixC (.own o) y G := rfl
theorem lenS23 : lenC (con ⟨s0 :: s1 :: s2 :: s3 :: s4 :: s5 :: s6 :: s7 :: s8 :: s9 :: s10 :: s11 :: s12 :: s13 :: s14 :: s15 :: s16 :: s17 :: s18 :: s19 :: s20 :: s21 :: s22 :: .own o :: r, W⟩ (.slot 23)) G = lenC (.own o) G := rfl
theorem setS23 : setC (con ⟨s0 :: s1 :: s2 :: s3 :: s4 :: s5 :: s6 :: s7 :: s8 :: s9 :: s10 :: s11 :: s12 :: s13 :: s14 :: s15 :: s16 :: s17 :: s18 :: s19 :: s20 :: s21 :: s22 :: .own o :: r, W⟩ (.slot 23)) y d V = setC (.own o) y d V := rfl
theorem conS23 : con ⟨s0 :: s1 :: s2 :: s3 :: s4 :: s5 :: s6 :: s7 :: s8 :: s9 :: s10 :: s11 :: s12 :: s13 :: s14 :: s15 :: s16 :: s17 :: s18 :: s19 :: s20 :: s21 :: s22 :: .own o :: r, W⟩ (.slot 23) = .own o := rfl
theorem putS23 : putC ⟨s0 :: s1 :: s2 :: s3 :: s4 :: s5 :: s6 :: s7 :: s8 :: s9 :: s10 :: s11 :: s12 :: s13 :: s14 :: s15 :: s16 :: s17 :: s18 :: s19 :: s20 :: s21 :: s22 :: s23 :: r, W⟩ (.slot 23) u = ⟨s0 :: s1 :: s2 :: s3 :: s4 :: s5 :: s6 :: s7 :: s8 :: s9 :: s10 :: s11 :: s12 :: s13 :: s14 :: s15 :: s16 :: s17 :: s18 :: s19 :: s20 :: s21 :: s22 :: .own u :: r, W⟩ := rfl
end
theorem ixK_tup (S : Sta) (xs : List D) (y : D) (Q : D → Prop) : ixC (con S (.val (.tup xs))) y Q = oIx (.tup xs) y Q := rfl
theorem ixK_lst (S : Sta) (xs : List D) (y : D) (Q : D → Prop) : ixC (con S (.val (.lst xs))) y Q = oIx (.lst xs) y Q := rfl
theorem ixK_str (S : Sta) (x : Str) (y : D) (Q : D → Prop) : ixC (con S (.val (.str x))) y Q = oIx (.str x) y Q := rfl
theorem ixK_dct (S : Sta) (ks vs : List D) (y : D) (Q : D → Prop) : ixC (con S (.val (.dct ks vs))) y Q = ((keyK y).isSome = true ∧ ∃ d, dget ks vs y = some d ∧ Q d) := rfl
theorem lenK_tup (S : Sta) (xs : List D) (Q : D → Prop) : lenC (con S (.val (.tup xs))) Q = Q (.int xs.length) := rfl
theorem lenK_lst (S : Sta) (xs : List D) (Q : D → Prop) : lenC (con S (.val (.lst xs))) Q = Q (.int xs.length) := rfl
theorem lenK_str (S : Sta) (x : Str) (Q : D → Prop) : lenC (con S (.val (.str x))) Q = (x.length ≤ sizeLine ∧ Q (.int x.length)) := rfl
theorem pSetO_eq (i : Nat) (t : PTO) (P : PEnds) (S : Sta) : pSetO i t P S = t S (kSetO i P) P.ex := rfl
def kPar (i j : Nat) (P : PEnds) : List D → Sta → Prop := fun ds S1 => ∃ x y, ds = [x, y] ∧ P.nx ⟨(S1.ρ.set i (.val x)).set j (.val y), S1.W⟩
theorem pPar_eq (i j : Nat) (t : PTA) (P : PEnds) (S : Sta) : pPar i j t P S = t S (kPar i j P) P.ex := rfl
theorem kPar_mk (i j : Nat) (P : PEnds) (x y : D) (S : Sta) : kPar i j P [x, y] S = kSet i { P with nx := kSet j P y } x S := by
  apply propext
  constructor
  · rintro ⟨x, y, h, p⟩
    cases h
    exact p
  · exact fun p => ⟨x, y, rfl, p⟩
theorem ex_int1 {a : Int} {P : Int → Prop} : (∃ j : Int, [D.int a] = [.int j] ∧ P j) = P a := by
  apply propext
  constructor
  · rintro ⟨x, h, p⟩
    cases h
    exact p
  · exact fun p => ⟨a, rfl, p⟩
theorem ex_int2 {a b : Int} {P : Int → Int → Prop} : (∃ i j : Int, [D.int a, D.int b] = [.int i, .int j] ∧ P i j) = P a b := by
  apply propext
  constructor
  · rintro ⟨x, y, h, p⟩
    cases h
    exact p
  · exact fun p => ⟨a, b, rfl, p⟩
theorem ex_pair {a b : D} {P : D → D → Prop} : (∃ x y, [a, b] = [x, y] ∧ P x y) = P a b := by
  apply propext
  constructor
  · rintro ⟨x, y, h, p⟩
    cases h
    exact p
  · exact fun p => ⟨a, b, rfl, p⟩
/-! ### loops: an invariant along the list -/
theorem forW_list {α : Type} (e : α → D) (I : List α → Sta → Prop) {g : PTG} {tb : PTS} {P : PEnds} (nil : ∀ S, I [] S → P.nx S)
    (cons : ∀ a r S (K : Sta → Prop), I (a :: r) S → (∀ S', I r S' → K S') → g (e a) S fun S2 => tb { P with nx := K, ct := K, bk := P.nx } S2) :
    ∀ xs S, I xs S → forW g tb P (xs.map e) S
  | [], S, h => nil S h
  | a :: r, S, h => cons a r S (forW g tb P (r.map e)) h fun S' h' => forW_list e I nil cons r S' h'
theorem forW_mem {xs : List D} {S : Sta} (I : Sta → Prop) {g : PTG} {tb : PTS} {P : PEnds} (nil : ∀ S, I S → P.nx S)
    (cons : ∀ d, d ∈ xs → ∀ S (K : Sta → Prop), I S → (∀ S', I S' → K S') → g d S fun S2 => tb { P with nx := K, ct := K, bk := P.nx } S2) (h : I S) : forW g tb P xs S := by
  have key : ∀ ys : List D, (∀ y ∈ ys, y ∈ xs) → ∀ S, I S → forW g tb P ys S := fun ys => by
    induction ys with
    | nil => exact fun _ S h => nil S h
    | cons d r ih => exact fun hm S h => cons d (hm d (List.mem_cons_self ..)) S (forW g tb P r) h (ih fun y hy => hm y (List.mem_cons_of_mem _ hy))
  exact key xs (fun _ h => h) S h
theorem forW_range {lo : Int} {n : Nat} (I : Nat → Sta → Prop) {g : PTG} {tb : PTS} {P : PEnds} (done : ∀ S, I n S → P.nx S)
    (step : ∀ i S (K : Sta → Prop), i < n → I i S → (∀ S', I (i + 1) S' → K S') → g (.int (lo + i)) S fun S2 => tb { P with nx := K, ct := K, bk := P.nx } S2)
    {S : Sta} (h : I 0 S) : forW g tb P (rangeD lo n) S := by
  have key : ∀ (m i : Nat) (S : Sta), i + m = n → I i S → forW g tb P ((List.range' i m).map fun (i : Nat) => D.int (lo + i)) S := fun m => by
    induction m with
    | zero => intro i S e h; exact done S (by have : i = n := by omega
                                              exact this ▸ h)
    | succ m ih =>
      intro i S e h
      rw [List.range'_succ, List.map_cons]
      exact step i S (forW g tb P ((List.range' (i + 1) m).map fun (i : Nat) => D.int (lo + i))) (by omega) h fun S' h' => ih (i + 1) S' (by omega) h'
  have := key n 0 S (by omega) h
  unfold rangeD
  rw [List.range_eq_range']
  exact this
theorem lcW_list {α : Type} (e : α → D) (I : List α → List D → Sta → Prop) {g : PTG} {tt : PTT} {te : PTE} {vs : List Nat} {Q : PQ} (nil : ∀ acc S, I [] acc S → Q (.lst acc) S)
    (cons : ∀ a r acc S (K : List D → Sta → Prop), I (a :: r) acc S → (∀ acc' S', I r acc' S' → K acc' S') →
      g (e a) S fun S2 => tt S2 (fun b S3 => if b = true then te S3 (fun y S4 => acc.length < sizeLine ∧ K (acc ++ [y]) (wipS S4 vs)) noX else K acc (wipS S3 vs)) noX) :
    ∀ xs acc S, I xs acc S → lcW g tt te vs Q (xs.map e) acc S
  | [], acc, S, h => nil acc S h
  | a :: r, acc, S, h => cons a r acc S (fun acc' S' => lcW g tt te vs Q (r.map e) acc' S') h fun acc' S' h' => lcW_list e I nil cons r acc' S' h'
end Pl
set_option Elab.async false
set_option linter.all false
set_option maxRecDepth 100000
set_option maxHeartbeats 4000000
/-! PlEnd: a law's end -/
namespace Pl
open PySem PySem.Spec L2
theorem exm_of {K : PySem.W.Frag} {S C : Addr} {b : Bool} (h1 : PySem.W.subIn K (.ref C) (.type "BaseException") = some true) (h2 : PySem.W.isClsIn K C = true) (h3 : PySem.W.typeIn K (.ref C) = some (.type "type")) (h4 : PySem.W.subIn K (.ref S) (.ref C) = some b) :
    PySem.W.exmOne K (.ref S) (.ref C) = some b := by
  have e1 : (PySem.W.subIn K (.ref C) (.type "BaseException") == some true) = true := by rw [h1] <;> rfl
  have e2 : ((PySem.W.clsIn K C).isSome && PySem.W.typeIn K (.ref C) == some (.type "type")) = true := by
    have h2' : (PySem.W.clsIn K C).isSome = true := h2
    rw [h2', h3] <;> rfl
  show (if (PySem.W.subIn K (.ref C) (.type "BaseException") == some true) = true then (if ((PySem.W.clsIn K C).isSome && PySem.W.typeIn K (.ref C) == some (.type "type")) = true then PySem.W.subIn K (.ref S) (.ref C) else none) else none) = some b
  rw [if_pos e1, if_pos e2]
  exact h4
theorem kit_of {K : PySem.W.Frag} {S C : Addr} (h2 : PySem.W.isClsIn K C = true) (h3 : PySem.W.typeIn K (.ref C) = some (.type "type")) (h4 : PySem.W.subIn K (.ref S) (.ref C) = some true) :
    PySem.W.kitOne K (.ref S) (.ref C) = some true := by
  have e2 : ((PySem.W.clsIn K C).isSome && PySem.W.typeIn K (.ref C) == some (.type "type")) = true := by
    have h2' : (PySem.W.clsIn K C).isSome = true := h2
    rw [h2', h3] <;> rfl
  unfold PySem.W.kitOne
  split
  · rfl
  · show (if ((PySem.W.clsIn K C).isSome && PySem.W.typeIn K (.ref C) == some (.type "type")) = true then PySem.W.subIn K (.ref S) (.ref C) else none) = some true
    rw [if_pos e2]
    exact h4
theorem gt_of {K : PySem.W.Frag} {w : World} {mg : Str → Option Value} {x : Str} {p : Addr} {tab : List (Str × D)} (hm : mg x = some (.ref p)) (h : ∀ zd, zd ∈ tab → ∃ v, KDct K w p zd.1 v ∧ ∀ H, Rep K H v zd.2) : GT K w mg x tab := by
  refine ⟨p, hm, fun z d e => ?_⟩
  have key : ∀ t : List (Str × D), t.lookup z = some d → (z, d) ∈ t := fun t => by
    induction t with
    | nil => intro h; cases h
    | cons q r ih =>
      intro h
      rw [List.lookup_cons] at h
      split at h
      · rename_i c
        have c := eq_of_beq c
        cases h
        subst c
        exact List.mem_cons_self ..
      · exact List.mem_cons_of_mem _ (ih h)
  exact h (z, d) (key tab e)
theorem low_none {P : Program} {w : World} {K : PySem.W.Frag} {mg : Str → Option Value} {base : Heap} {x : Str} {ps : List Str} {st : Stmt} {k n : Nat} {φ : PFn} (T : TopD K mg x ps st) (hn : ps.length = n) (h : ∀ ds Wo Q E, ¬ φ ds Wo Q E) : CallF P w K mg base x n k φ := by
  subst hn
  exact (call_none T).wk fun ds Wo Q E z => h ds Wo Q E z
/-- a callee's promise for less deep things -/
def lowφ (m : Nat) (φ : Nat → PFn) (d : Nat) : PFn := fun ds W Q E => m ≤ d ∧ φ (d - 1) ds W Q E
/-- the given list -/
theorem script_rep {K : PySem.W.Frag} {H : Hp} {a : Addr} {ns : List Int} (hO : Only H) (hS : SqL K H a (ns.map V.int)) : Rep K H (.ref a) (.lst (ns.map D.int)) := by
  have ra : RepAll K H (ns.map V.int) (ns.map D.int) := by
    clear hS
    induction ns with
    | nil => exact .nil
    | cons n r ih => exact .cons (.int n) ih
  refine .lst ?_ ra
  rcases hS with (h | h) | h
  · rcases hO a with e | ⟨o, xs, e⟩
    · rw [e] at h; cases h
    · rw [e] at h; cases h
  · exact .inl h
  · exact .inr h
theorem law_sp {K : PySem.W.Frag} {H : Hp} {a : Addr} {ns : List Int} {φ : PFn} (hφ : ∀ (ds : List D) Wo (Q : D → (Addr → Option Own) → Prop) E, ds = [.lst (ns.map D.int)] → (∀ W', Q (.bl true) W') → φ ds Wo Q E) (hO : Only H) (hS : SqL K H a (ns.map V.int)) :
    spP K 1 φ [.ref a] H (fun v _ => v = .bl true) fun _ _ _ => False := by
  refine ⟨[.lst (ns.map D.int)], fun _ => none, fun d _ => d = .bl true, fun _ _ => False, rfl, .cons (script_rep hO hS) .nil, fun _ _ h => by (cases h), hφ _ _ _ _ rfl fun _ => rfl, fun v d H' W' _ _ r e => ?_, fun _ _ _ _ _ _ _ _ h => h⟩
  subst e
  cases r
  rfl
theorem cx_end {P : Program} {w : World} {H : Hp} {s : Shared} {e : Value} {s' : Shared} (h : L2.CX P w [] H s (fun _ _ _ => False) e s') : False := by
  obtain ⟨_, _, _, _, _, _, _, _, _, _, _, _, h⟩ := h
  exact h
end Pl
set_option Elab.async false
set_option linter.all false
set_option maxRecDepth 100000
set_option maxHeartbeats 4000000
/-! Kt: loops as typed data, and their images -/
namespace Kt
open PySem PySem.Spec L2 Pl
inductive Tst where
  | due | flag | late (n : Int)
  deriving DecidableEq
inductive Stm where
  | wait (n : Int) | rest (n : Int) | move (n : Int) | ahead (n : Int) | set (n : Int) | «until» | up | down
  | ite (t : Tst) (a b : List Stm)
structure Loop where
  least : Int
  most : Int
  first : Int
  body : List Stm
def encT : Tst → D
  | .due => .tup [.str "due"]
  | .flag => .tup [.str "flag"]
  | .late n => .tup [.str "late", .int n]
mutual
def encS : Stm → D
  | .wait n => .tup [.str "wait", .int n]
  | .rest n => .tup [.str "rest", .int n]
  | .move n => .tup [.str "move", .int n]
  | .ahead n => .tup [.str "ahead", .int n]
  | .set n => .tup [.str "set", .int n]
  | .until => .tup [.str "until"]
  | .up => .tup [.str "up"]
  | .down => .tup [.str "down"]
  | .ite t a b => .tup [.str "if", encT t, .tup (encSs a), .tup (encSs b)]
def encSs : List Stm → List D
  | [] => []
  | s :: r => encS s :: encSs r
end
theorem encSs_map (b : List Stm) : encSs b = b.map encS := by
  induction b with
  | nil => rfl
  | cons s r ih => simp only [encSs, List.map_cons, ih]
def encB (b : List Stm) : D := .tup (encSs b)
def encL (l : Loop) : D := .tup [.int l.least, .int l.most, .int l.first, encB l.body]
/-- numbers that are let -/
def inR (a b n : Int) : Bool := decide (a ≤ n) && decide (n ≤ b)
def okT : Tst → Bool
  | .late n => inR 0 8 n
  | _ => true
def okS : Nat → Stm → Bool
  | 0, _ => false
  | d + 1, s => match s with
    | .wait n => inR 1 8 n
    | .rest n => inR 1 8 n
    | .move n => inR 1 8 n
    | .ahead n => inR 1 8 n
    | .set n => inR 0 8 n
    | .until => true
    | .up => true
    | .down => true
    | .ite t a b => okT t && ((decide (a.length ≤ 8) && a.all (okS d)) && (decide (b.length ≤ 8) && b.all (okS d)))
def okB (d : Nat) (b : List Stm) : Bool := decide (b.length ≤ 8) && b.all (okS d)
/- all statements, in the order in which they are written -/
mutual
def listedS : Stm → List Stm
  | .wait n => [.wait n]
  | .rest n => [.rest n]
  | .move n => [.move n]
  | .ahead n => [.ahead n]
  | .set n => [.set n]
  | .until => [.until]
  | .up => [.up]
  | .down => [.down]
  | .ite t a b => .ite t a b :: (listedB a ++ listedB b)
def listedB : List Stm → List Stm
  | [] => []
  | s :: r => listedS s ++ listedB r
end
def okL (l : Loop) : Bool := inR 0 8 l.least && inR 0 8 l.most && inR 0 8 l.first && decide (l.least ≤ l.most) && okB 3 l.body && decide ((listedB l.body).length ≤ 12)
def wordS : Stm → Str
  | .wait _ => "wait"
  | .rest _ => "rest"
  | .move _ => "move"
  | .ahead _ => "ahead"
  | .set _ => "set"
  | .until => "until"
  | .up => "up"
  | .down => "down"
  | .ite _ _ _ => "if"
/-! ### images are good -/
theorem gd_T : ∀ t : Tst, D.gd 1 (encT t) = true
  | .due => by decide +kernel
  | .flag => by decide +kernel
  | .late n => by
    have h : D.gd 0 (.str "late") = true := by decide +kernel
    rw [encT, gd_tup]; simp only [List.all_cons, List.all_nil, h, Bool.true_and, Bool.and_true]; rfl
theorem okS_succ : ∀ (d : Nat) (s : Stm), okS d s = true → D.gd (2 * d + 1) (encS s) = true
  | 0, s, h => by simp [okS] at h
  | d + 1, s, h => by
    have num : ∀ (x : Str) (n : Int), D.gd 0 (.str x) = true → D.gd (2 * (d + 1) + 1) (.tup [.str x, .int n]) = true := fun x n hx => by
      rw [gd_tup]
      simp only [List.all_cons, List.all_nil, gd_mono hx (Nat.zero_le _), Bool.true_and, Bool.and_true]
      exact gd_mono (n := 0) rfl (Nat.zero_le _)
    have one : ∀ (x : Str), D.gd 0 (.str x) = true → D.gd (2 * (d + 1) + 1) (.tup [.str x]) = true := fun x hx => by
      rw [gd_tup]
      simp only [List.all_cons, List.all_nil, gd_mono hx (Nat.zero_le _), Bool.true_and, Bool.and_true]
    cases s with
    | wait n => exact num _ n (by decide +kernel)
    | rest n => exact num _ n (by decide +kernel)
    | move n => exact num _ n (by decide +kernel)
    | ahead n => exact num _ n (by decide +kernel)
    | set n => exact num _ n (by decide +kernel)
    | «until» => exact one _ (by decide +kernel)
    | up => exact one _ (by decide +kernel)
    | down => exact one _ (by decide +kernel)
    | ite t a b =>
      simp only [okS, Bool.and_eq_true, List.all_eq_true] at h
      obtain ⟨h1, ⟨_, h2⟩, ⟨_, h3⟩⟩ := h
      have bod : ∀ a : List Stm, (∀ x ∈ a, okS d x = true) → D.gd (2 * (d + 1)) (.tup (encSs a)) = true := fun a h => by
        show D.gd ((2 * d + 1) + 1) (.tup (encSs a)) = true
        rw [gd_tup, encSs_map, List.all_map, List.all_eq_true]
        exact fun x hx => okS_succ d x (h x hx)
      have hi : D.gd 0 (.str "if") = true := by decide +kernel
      rw [encS, gd_tup]
      simp only [List.all_cons, List.all_nil, gd_mono hi (Nat.zero_le _), gd_mono (gd_T t) (show 1 ≤ 2 * (d + 1) by omega), bod a h2, bod b h3, Bool.true_and, Bool.and_true]
theorem gd_B {d : Nat} {b : List Stm} (h : okB d b = true) : D.gd (2 * d + 2) (encB b) = true := by
  simp only [okB, Bool.and_eq_true, List.all_eq_true] at h
  show D.gd ((2 * d + 1) + 1) (.tup (encSs b)) = true
  rw [gd_tup, encSs_map, List.all_map, List.all_eq_true]
  exact fun x hx => okS_succ d x (h.2 x hx)
theorem good_S {d : Nat} {s : Stm} (h : okS d s = true) (hd : d ≤ 20 := by decide) : (encS s).good = true := by
  have := okS_succ d s h
  exact gd_good (gd_mono this (show 2 * d + 1 ≤ 60 by omega)) (Nat.le_refl _)
theorem good_B {d : Nat} {b : List Stm} (h : okB d b = true) (hd : d ≤ 20 := by decide) : (encB b).good = true := gd_good (gd_mono (gd_B h) (show 2 * d + 2 ≤ 60 by omega)) (Nat.le_refl _)
theorem gd_L {l : Loop} (h : okL l = true) : D.gd 9 (encL l) = true := by
  simp only [okL, Bool.and_eq_true] at h
  have hb := gd_B h.1.2
  have hi : ∀ n : Int, D.gd 8 (.int n) = true := fun n => gd_mono (n := 0) rfl (Nat.zero_le _)
  rw [encL, gd_tup]
  simp only [List.all_cons, List.all_nil, hi, hb, Bool.true_and, Bool.and_true]
theorem good_L {l : Loop} (h : okL l = true) : (encL l).good = true := gd_good (gd_L h)
end Kt
set_option Elab.async false
set_option linter.all false
set_option maxRecDepth 100000
set_option maxHeartbeats 4000000
/-! KtV: what the checks of the library tell of any value, and what that says of loops as typed data -/
namespace Kt
open PySem PySem.Spec L2 Pl
def isNum (v : D) (a b : Int) : Bool := match v with
  | .int i => decide (a ≤ i) && decide (i ≤ b)
  | _ => false
def φ_is_number : PFn := fun ds W Q _ => ∃ v a b, ds = [v, .int a, .int b] ∧ v.dat = true ∧ Q (.bl (isNum v a b)) W
def tab_LEAST_NUMBERS : List (Str × D) := [("wait", .int 1), ("rest", .int 1), ("move", .int 1), ("ahead", .int 1), ("set", .int 0), ("late", .int 0)]
/-- the words that have numbers -/
def leastOf (x : Str) : Option Int := if x = "set" ∨ x = "late" then some 0 else if x = "wait" ∨ x = "rest" ∨ x = "move" ∨ x = "ahead" then some 1 else none
theorem tab_least {x : Str} {n : Int} (h : leastOf x = some n) : tab_LEAST_NUMBERS.lookup x = some (.int n) := by
  unfold leastOf at h
  split at h
  · rename_i e
    cases h
    rcases e with rfl | rfl <;> rfl
  · split at h
    · rename_i e
      cases h
      rcases e with rfl | rfl | rfl | rfl <;> rfl
    · cases h
/-- a pair of one of some words and a number -/
def isCounted (x : Str) (r : List D) (ws : List Str) : Bool := match r with
  | [v] => ws.contains x && isNum v ((leastOf x).getD 0) 8
  | _ => false
def φ_is_counted : PFn := fun ds W Q _ => ∃ x r ws, ds = [.tup (.str x :: r), .tup (ws.map .str)] ∧ D.good (.tup (.str x :: r)) = true ∧ D.good (.tup (ws.map .str)) = true ∧ (∀ y ∈ ws, (leastOf y).isSome = true) ∧ Q (.bl (isCounted x r ws)) W
theorem any_words (ws : List Str) (x : Str) : ((ws.map D.str).any fun z => eqD z (.str x)) = ws.contains x := by
  induction ws with
  | nil => rfl
  | cons y r ih =>
    rw [List.map_cons, List.any_cons, List.contains_cons, ih, eqD_str]
    congr 1
    rw [Bool.eq_iff_iff, beq_iff_eq, beq_iff_eq]
    exact eq_comm
def isWorded (v : D) : Bool := match v with
  | .tup (.str _ :: _) => true
  | _ => false
def φ_is_worded : PFn := fun ds W Q _ => ∃ v, ds = [v] ∧ v.good = true ∧ Q (.bl (isWorded v)) W
def isTest (v : D) : Bool := match v with
  | .tup [.str x] => x == "due" || x == "flag"
  | .tup [.str x, n] => x == "late" && isNum n 0 8
  | _ => false
theorem isTest_worded {v : D} (h : isWorded v = false) : isTest v = false := by
  unfold isTest
  split
  · simp [isWorded] at h
  · simp [isWorded] at h
  · rfl
def φ_is_test : PFn := fun ds W Q _ => ∃ v, ds = [v] ∧ v.good = true ∧ Q (.bl (isTest v)) W
def bodW (f : D → Bool) (v : D) : Bool := match v with
  | .tup xs => decide (xs.length ≤ 8) && xs.all f
  | _ => false
def isStm : Nat → D → Bool
  | 0, _ => false
  | d + 1, v => match v with
    | .tup (.str x :: r) =>
      if x = "if" then match r with
        | [t, a, b] => isTest t && (bodW (isStm d) a && bodW (isStm d) b)
        | _ => false
      else if (r.isEmpty && (x == "until" || (x == "up" || x == "down"))) = true then true else isCounted x r ["wait", "rest", "move", "ahead", "set"]
    | _ => false
def isBod (d : Nat) (v : D) : Bool := bodW (isStm d) v
def φ_is_statement (d : Nat) : PFn := fun ds W Q _ => ∃ v, ds = [v, .int d] ∧ v.good = true ∧ Q (.bl (isStm d v)) W
def φ_is_body (d : Nat) : PFn := fun ds W Q _ => ∃ v, ds = [v, .int d] ∧ v.good = true ∧ Q (.bl (isBod d v)) W
def φ_is_body' : Nat → PFn
  | 0 => fun _ _ _ _ => False
  | d + 1 => φ_is_body d
theorem isStm_worded {d : Nat} {v : D} (h : isWorded v = false) : isStm d v = false := by
  cases d with
  | zero => rfl
  | succ d =>
    unfold isStm
    split
    · simp [isWorded] at h
    · rfl
/-! ### images -/
theorem isNum_iff {v : D} {a b : Int} : isNum v a b = true ↔ ∃ n, inR a b n = true ∧ v = .int n := by
  unfold isNum inR
  constructor
  · intro h
    split at h
    · exact ⟨_, h, rfl⟩
    · cases h
  · rintro ⟨n, h, rfl⟩
    exact h
theorem isTest_iff {v : D} : isTest v = true ↔ ∃ t, okT t = true ∧ v = encT t := by
  constructor
  · intro h
    unfold isTest at h
    split at h
    · rename_i x
      simp only [Bool.or_eq_true, beq_iff_eq] at h
      rcases h with rfl | rfl
      · exact ⟨.due, rfl, rfl⟩
      · exact ⟨.flag, rfl, rfl⟩
    · rename_i x n
      simp only [Bool.and_eq_true, beq_iff_eq] at h
      obtain ⟨rfl, h⟩ := h
      obtain ⟨n, h, rfl⟩ := isNum_iff.mp h
      exact ⟨.late n, h, rfl⟩
    · cases h
  · rintro ⟨t, h, rfl⟩
    cases t with
    | due => rfl
    | flag => rfl
    | late n => simpa [encT, isTest] using isNum_iff.mpr ⟨n, h, rfl⟩
theorem all_iff_map {f : D → Bool} {p : Stm → Bool} {e : Stm → D} (h : ∀ v, f v = true ↔ ∃ s, p s = true ∧ v = e s) : ∀ xs : List D, xs.all f = true ↔ ∃ b : List Stm, b.all p = true ∧ xs = b.map e
  | [] => ⟨fun _ => ⟨[], rfl, rfl⟩, fun _ => rfl⟩
  | x :: r => by
    rw [List.all_cons, Bool.and_eq_true, h x, all_iff_map h r]
    constructor
    · rintro ⟨⟨s, h1, rfl⟩, ⟨b, h2, rfl⟩⟩
      exact ⟨s :: b, by simp [h1, h2], rfl⟩
    · rintro ⟨b, h1, h2⟩
      cases b with
      | nil => cases h2
      | cons s b =>
        rw [List.map_cons, List.cons.injEq] at h2
        rw [List.all_cons, Bool.and_eq_true] at h1
        exact ⟨⟨s, h1.1, h2.1⟩, ⟨b, h1.2, h2.2⟩⟩
theorem isBod_of {d : Nat} (h : ∀ v, isStm d v = true ↔ ∃ s, okS d s = true ∧ v = encS s) (v : D) : isBod d v = true ↔ ∃ b, okB d b = true ∧ v = encB b := by
  unfold isBod bodW
  constructor
  · intro hv
    split at hv
    · rename_i xs
      rw [Bool.and_eq_true, all_iff_map h] at hv
      obtain ⟨h1, b, h2, rfl⟩ := hv
      exact ⟨b, by simpa [okB, h2] using h1, by rw [encB, encSs_map]⟩
    · cases hv
  · rintro ⟨b, hb, rfl⟩
    simp only [okB, Bool.and_eq_true] at hb
    simp only [encB, encSs_map, List.length_map, Bool.and_eq_true]
    exact ⟨hb.1, (all_iff_map h _).mpr ⟨b, hb.2, rfl⟩⟩
theorem isStm_iff : ∀ (d : Nat) (v : D), isStm d v = true ↔ ∃ s, okS d s = true ∧ v = encS s
  | 0, v => by
    constructor
    · intro h; cases h
    · rintro ⟨s, h, _⟩; simp [okS] at h
  | d + 1, v => by
    have ih := isBod_of (isStm_iff d)
    constructor
    · intro h
      unfold isStm at h
      split at h
      · rename_i x r
        split at h
        · rename_i hx
          subst hx
          split at h
          · rename_i t a b
            rw [Bool.and_eq_true, Bool.and_eq_true] at h
            obtain ⟨h1, h2, h3⟩ := h
            obtain ⟨t, ht, rfl⟩ := isTest_iff.mp h1
            obtain ⟨a, ha, rfl⟩ := (ih a).mp h2
            obtain ⟨b, hb, rfl⟩ := (ih b).mp h3
            refine ⟨.ite t a b, ?_, rfl⟩
            unfold okB at ha hb
            simp [okS, ht, ha, hb]
          · cases h
        · split at h
          · rename_i c
            simp only [Bool.and_eq_true, Bool.or_eq_true, beq_iff_eq, List.isEmpty_iff] at c
            obtain ⟨rfl, c⟩ := c
            rcases c with rfl | rfl | rfl
            · exact ⟨.until, rfl, rfl⟩
            · exact ⟨.up, rfl, rfl⟩
            · exact ⟨.down, rfl, rfl⟩
          · unfold isCounted at h
            split at h
            · rename_i n _
              rw [Bool.and_eq_true, List.contains_iff_mem] at h
              obtain ⟨h1, h2⟩ := h
              simp only [List.mem_cons, List.not_mem_nil, or_false] at h1
              obtain ⟨n, h2, rfl⟩ := isNum_iff.mp h2
              rcases h1 with rfl | rfl | rfl | rfl | rfl
              · exact ⟨.wait n, h2, rfl⟩
              · exact ⟨.rest n, h2, rfl⟩
              · exact ⟨.move n, h2, rfl⟩
              · exact ⟨.ahead n, h2, rfl⟩
              · exact ⟨.set n, h2, rfl⟩
            · cases h
      · cases h
    · rintro ⟨s, h, rfl⟩
      have num : ∀ (x : Str) (n : Int), x ≠ "if" → (["wait", "rest", "move", "ahead", "set"] : List Str).contains x = true → inR ((leastOf x).getD 0) 8 n = true → isStm (d + 1) (.tup [.str x, .int n]) = true := fun x n h1 h2 h3 => by
        simp only [isStm, if_neg h1, List.isEmpty_cons, Bool.false_and, Bool.false_eq_true, if_false]
        simp only [isCounted, h2, Bool.true_and]
        exact isNum_iff.mpr ⟨n, h3, rfl⟩
      cases s with
      | wait n => exact num _ n (by decide +kernel) (by decide +kernel) h
      | rest n => exact num _ n (by decide +kernel) (by decide +kernel) h
      | move n => exact num _ n (by decide +kernel) (by decide +kernel) h
      | ahead n => exact num _ n (by decide +kernel) (by decide +kernel) h
      | set n => exact num _ n (by decide +kernel) (by decide +kernel) h
      | «until» => rfl
      | up => rfl
      | down => rfl
      | ite t a b =>
        simp only [okS, Bool.and_eq_true] at h
        have h1 := isTest_iff.mpr ⟨t, h.1, rfl⟩
        have h2 := (ih (encB a)).mpr ⟨a, by simp only [okB, Bool.and_eq_true]; exact h.2.1, rfl⟩
        have h3 := (ih (encB b)).mpr ⟨b, by simp only [okB, Bool.and_eq_true]; exact h.2.2, rfl⟩
        unfold isBod encB at h2 h3
        simp only [encS, isStm, if_true, h1, h2, h3, Bool.true_and]
theorem isBod_iff {d : Nat} {v : D} : isBod d v = true ↔ ∃ b, okB d b = true ∧ v = encB b := isBod_of (isStm_iff d) v
end Kt
set_option Elab.async false
set_option linter.all false
set_option maxRecDepth 100000
set_option maxHeartbeats 4000000
/-! KtP: promises of the functions that the laws share -/
namespace Kt
open PySem PySem.Spec L2 Pl
/-! ### sizes -/
def bnd : Nat → Nat
  | 0 => 0
  | d + 1 => 8 * (1 + 2 * bnd d)
theorem bnd_mono {a b : Nat} (h : a ≤ b) : bnd a ≤ bnd b := by
  induction h with
  | refl => exact Nat.le_refl _
  | step h ih =>
    rename_i m
    have : ∀ m, bnd m ≤ bnd (m + 1) := fun m => by
      induction m with
      | zero => exact Nat.zero_le _
      | succ m ih => show 8 * (1 + 2 * bnd m) ≤ 8 * (1 + 2 * bnd (m + 1)); omega
    exact Nat.le_trans ih (this m)
theorem listedB_append (a b : List Stm) : listedB (a ++ b) = listedB a ++ listedB b := by
  induction a with
  | nil => rfl
  | cons s r ih => simp only [List.cons_append, listedB, ih, List.append_assoc]
theorem listedS_pos (s : Stm) : 1 ≤ (listedS s).length := by
  cases s <;> simp [listedS]
theorem listed_le {f : Stm → Prop} {n : Nat} (h : ∀ s, f s → (listedS s).length ≤ n) : ∀ b : List Stm, (∀ s ∈ b, f s) → (listedB b).length ≤ b.length * n
  | [], _ => by simp [listedB]
  | s :: r, hb => by
    have h1 := h s (hb s (List.mem_cons_self ..))
    have h2 := listed_le h r fun x hx => hb x (List.mem_cons_of_mem _ hx)
    simp only [listedB, List.length_append, List.length_cons, Nat.add_mul, Nat.one_mul]; omega
theorem okS_bnd : ∀ (d : Nat) (s : Stm), okS (d + 1) s = true → (listedS s).length ≤ 1 + 2 * bnd d
  | d, s, h => by
    have e : ∀ a : List Stm, (decide (a.length ≤ 8) && a.all (okS d)) = true → (listedB a).length ≤ bnd d := fun a ha => by
      rw [Bool.and_eq_true, decide_eq_true_eq, List.all_eq_true] at ha
      cases d with
      | zero =>
        cases a with
        | nil => simp [listedB]
        | cons s r => have := ha.2 s (List.mem_cons_self ..); simp [okS] at this
      | succ d =>
        have := listed_le (f := fun s => okS (d + 1) s = true) (fun s hs => okS_bnd d s hs) a ha.2
        refine Nat.le_trans this (Nat.mul_le_mul_right _ ha.1)
    cases s with
    | ite t a b =>
      simp only [okS, Bool.and_eq_true] at h
      have h1 := e a (by simp only [Bool.and_eq_true]; exact h.2.1)
      have h2 := e b (by simp only [Bool.and_eq_true]; exact h.2.2)
      simp only [listedS, List.length_cons, List.length_append]; omega
    | _ => simp only [listedS, List.length_singleton]; omega
theorem okB_bnd {d : Nat} {b : List Stm} (h : okB d b = true) : (listedB b).length ≤ bnd d := by
  simp only [okB, Bool.and_eq_true, decide_eq_true_eq, List.all_eq_true] at h
  cases d with
  | zero =>
    cases b with
    | nil => simp [listedB]
    | cons s r => have := h.2 s (List.mem_cons_self ..); simp [okS] at this
  | succ d =>
    have := listed_le (f := fun s => okS (d + 1) s = true) (fun s hs => okS_bnd d s hs) b h.2
    exact Nat.le_trans this (Nat.mul_le_mul_right _ h.1)
theorem okS_mono : ∀ {d e : Nat} {s : Stm}, okS d s = true → d ≤ e → okS e s = true
  | 0, _, _, h, _ => by simp [okS] at h
  | d + 1, 0, _, _, h => by omega
  | d + 1, e + 1, s, h, hd => by
    cases s with
    | ite t a b =>
      simp only [okS, Bool.and_eq_true, List.all_eq_true] at h ⊢
      exact ⟨h.1, ⟨h.2.1.1, fun x hx => okS_mono (h.2.1.2 x hx) (by omega)⟩, ⟨h.2.2.1, fun x hx => okS_mono (h.2.2.2 x hx) (by omega)⟩⟩
    | _ => exact h
theorem okB_mono {d e : Nat} {b : List Stm} (h : okB d b = true) (hd : d ≤ e) : okB e b = true := by
  simp only [okB, Bool.and_eq_true, List.all_eq_true] at h ⊢
  exact ⟨h.1, fun x hx => okS_mono (h.2 x hx) hd⟩
theorem okB_iff {d : Nat} {b : List Stm} : okB d b = true ↔ b.length ≤ 8 ∧ ∀ s ∈ b, okS d s = true := by
  simp only [okB, Bool.and_eq_true, decide_eq_true_eq, List.all_eq_true]
theorem okS_ite {d : Nat} {t : Tst} {a b : List Stm} : okS (d + 1) (.ite t a b) = true ↔ okT t = true ∧ okB d a = true ∧ okB d b = true := by
  simp only [okS, okB, Bool.and_eq_true]
/-! ### the library: bodies, lists of statements, loops -/
def bodD : Stm → List D
  | .ite _ a b => [encB a, encB b]
  | _ => []
def φ_bodies_of : PFn := fun ds W Q _ => ∃ s, ds = [encS s] ∧ Q (.lst (bodD s)) W
def φ_listed (d : Nat) : PFn := fun ds W Q _ => ∃ b, ds = [encB b] ∧ okB d b = true ∧ Q (.lst ((listedB b).map encS)) W
/-- how many statements there are -/
def szD : Nat → D → Nat
  | 0, _ => 1
  | d + 1, .tup [_, _, .tup a, .tup b] => 1 + ((a.map (szD d)).sum + (b.map (szD d)).sum)
  | _ + 1, _ => 1
theorem szD_S : ∀ (d : Nat) (s : Stm), okS d s = true → szD d (encS s) = (listedS s).length
  | 0, s, h => by simp [okS] at h
  | d + 1, s, h => by
    have e : ∀ a : List Stm, (∀ s ∈ a, okS d s = true) → ((encSs a).map (szD d)).sum = (listedB a).length := fun a => by
      induction a with
      | nil => intro _; rfl
      | cons s r ih =>
        intro ha
        have h1 := szD_S d s (ha s (List.mem_cons_self ..))
        have h2 := ih fun x hx => ha x (List.mem_cons_of_mem _ hx)
        simp only [encSs, List.map_cons, List.sum_cons, listedB, List.length_append, h1, h2]
    cases s with
    | ite t a b =>
      obtain ⟨_, h1, h2⟩ := okS_ite.mp h
      have e1 := e a (okB_iff.mp h1).2
      have e2 := e b (okB_iff.mp h2).2
      simp only [encS, szD, e1, e2, listedS, List.length_cons, List.length_append]; omega
    | _ => rfl
theorem szD_B {d : Nat} {b : List Stm} (h : okB d b = true) : ((encSs b).map (szD d)).sum = (listedB b).length := by
  replace h := (okB_iff.mp h).2
  induction b with
  | nil => rfl
  | cons s r ih =>
    have h1 := szD_S d s (h s (List.mem_cons_self ..))
    have h2 := ih fun x hx => h x (List.mem_cons_of_mem _ hx)
    simp only [encSs, List.map_cons, List.sum_cons, listedB, List.length_append, h1, h2]
def isLoop (v : D) : Bool := match v with
  | .tup [.int a, .int b, .int c, .tup s] => inR 0 8 a && inR 0 8 b && inR 0 8 c && decide (a ≤ b) && isBod 3 (.tup s) && decide ((s.map (szD 3)).sum ≤ 12)
  | _ => false
theorem isLoop_iff {v : D} : isLoop v = true ↔ ∃ L, okL L = true ∧ v = encL L := by
  constructor
  · intro h
    unfold isLoop at h
    split at h
    · rename_i a b c s
      simp only [Bool.and_eq_true, decide_eq_true_eq] at h
      obtain ⟨⟨⟨⟨⟨h1, h2⟩, h3⟩, h4⟩, h5⟩, h6⟩ := h
      obtain ⟨q, hq, e⟩ := isBod_iff.mp h5
      rw [encB, D.tup.injEq] at e
      subst e
      rw [szD_B hq] at h6
      exact ⟨⟨a, b, c, q⟩, by simp [okL, h1, h2, h3, h4, hq, h6], rfl⟩
    · cases h
  · rintro ⟨⟨a, b, c, q⟩, h, rfl⟩
    simp only [okL, Bool.and_eq_true, decide_eq_true_eq] at h
    obtain ⟨⟨⟨⟨⟨h1, h2⟩, h3⟩, h4⟩, h5⟩, h6⟩ := h
    have h7 := isBod_iff.mpr ⟨q, h5, rfl⟩
    unfold encB at h7
    simp only [encL, encB, isLoop, h1, h2, h3, h4, h7, szD_B h5, h6, decide_true, Bool.and_true]
theorem okL_iff {l : Loop} : okL l = true ↔ (0 ≤ l.least ∧ l.least ≤ l.most ∧ l.most ≤ 8 ∧ 0 ≤ l.first ∧ l.first ≤ 8) ∧ okB 3 l.body = true ∧ (listedB l.body).length ≤ 12 := by
  simp only [okL, inR, Bool.and_eq_true, decide_eq_true_eq]
  constructor
  · rintro ⟨⟨⟨⟨⟨⟨a, b⟩, c, d⟩, e, f⟩, g⟩, h⟩, i⟩
    exact ⟨⟨a, g, d, e, f⟩, h, i⟩
  · rintro ⟨⟨a, g, d, e, f⟩, h, i⟩
    exact ⟨⟨⟨⟨⟨⟨a, by omega⟩, by omega, d⟩, e, f⟩, g⟩, h⟩, i⟩
def φ_is_loop : PFn := fun ds W Q _ => ∃ v, ds = [v] ∧ v.good = true ∧ Q (.bl (isLoop v)) W
def φ_need_loop (C : Addr) : PFn := fun ds W Q E => ∃ v, ds = [v] ∧ v.good = true ∧ (isLoop v = true → Q .non W) ∧ (isLoop v = false → E ⟨.ref C, none⟩ W)
def φ_need_statement_number (C : Addr) : PFn := fun ds W Q E => ∃ L v, ds = [encL L, v] ∧ okL L = true ∧ v.dat = true ∧
  (isNum v 0 ((listedB L.body).length - 1) = true → Q .non W) ∧ (isNum v 0 ((listedB L.body).length - 1) = false → E ⟨.ref C, none⟩ W)
/- the body without the statement of a number -/
mutual
def woS : Stm → Int → Int → Stm
  | .ite t a b, first, gone => .ite t (woB a (first + 1) gone) (woB b (first + 1 + (listedB a).length) gone)
  | .wait n, _, _ => .wait n
  | .rest n, _, _ => .rest n
  | .move n, _, _ => .move n
  | .ahead n, _, _ => .ahead n
  | .set n, _, _ => .set n
  | .until, _, _ => .until
  | .up, _, _ => .up
  | .down, _, _ => .down
def woB : List Stm → Int → Int → List Stm
  | [], _, _ => []
  | s :: r, first, gone => if first = gone then woB r (first + (listedS s).length) gone else woS s first gone :: woB r (first + (listedS s).length) gone
end
mutual
/-- statements before the gone one are told in full -/
theorem woS_ok : ∀ (s : Stm) (d : Nat) (first gone : Int), okS d s = true → okS d (woS s first gone) = true
  | .ite t a b, 0, _, _, h => by simp [okS] at h
  | .ite t a b, d + 1, first, gone, h => by
    obtain ⟨h1, h2, h3⟩ := okS_ite.mp h
    rw [woS]
    exact okS_ite.mpr ⟨h1, (woB_ok a d _ gone h2).1, (woB_ok b d _ gone h3).1⟩
  | .wait n, _, _, _, h => h
  | .rest n, _, _, _, h => h
  | .move n, _, _, _, h => h
  | .ahead n, _, _, _, h => h
  | .set n, _, _, _, h => h
  | .until, _, _, _, h => h
  | .up, _, _, _, h => h
  | .down, _, _, _, h => h
theorem woB_ok : ∀ (b : List Stm) (d : Nat) (first gone : Int), okB d b = true → okB d (woB b first gone) = true ∧ (woB b first gone).length ≤ b.length
  | [], _, _, _, h => ⟨h, Nat.le_refl _⟩
  | s :: r, d, first, gone, h => by
    obtain ⟨h1, h2⟩ := okB_iff.mp h
    have hr : okB d r = true := okB_iff.mpr ⟨by simp at h1; omega, fun x hx => h2 x (List.mem_cons_of_mem _ hx)⟩
    obtain ⟨i1, i2⟩ := woB_ok r d (first + (listedS s).length) gone hr
    rw [woB]
    split
    · exact ⟨i1, by simp; omega⟩
    · have hs := woS_ok s d first gone (h2 s (List.mem_cons_self ..))
      refine ⟨okB_iff.mpr ⟨by simp at h1 ⊢; omega, fun x hx => ?_⟩, by simp; omega⟩
      rcases List.mem_cons.mp hx with rfl | hx
      · exact hs
      · exact (okB_iff.mp i1).2 x hx
end
mutual
/-- how many are left: the gone one is among them, or all are kept -/
theorem woS_size : ∀ (s : Stm) (first gone : Int), (listedS (woS s first gone)).length ≤ (listedS s).length ∧ (first < gone → gone < first + (listedS s).length → (listedS (woS s first gone)).length < (listedS s).length)
  | .ite t a b, first, gone => by
    obtain ⟨a1, a2⟩ := woB_size a (first + 1) gone
    obtain ⟨b1, b2⟩ := woB_size b (first + 1 + (listedB a).length) gone
    simp only [woS, listedS, List.length_cons, List.length_append]
    refine ⟨by omega, fun h1 h2 => ?_⟩
    by_cases h : gone < first + 1 + (listedB a).length
    · have := a2 (by omega) h; omega
    · have := b2 (by omega) (by omega); omega
  | .wait n, _, _ => by simp [woS, listedS]; omega
  | .rest n, _, _ => by simp [woS, listedS]; omega
  | .move n, _, _ => by simp [woS, listedS]; omega
  | .ahead n, _, _ => by simp [woS, listedS]; omega
  | .set n, _, _ => by simp [woS, listedS]; omega
  | .until, _, _ => by simp [woS, listedS]; omega
  | .up, _, _ => by simp [woS, listedS]; omega
  | .down, _, _ => by simp [woS, listedS]; omega
theorem woB_size : ∀ (b : List Stm) (first gone : Int), (listedB (woB b first gone)).length ≤ (listedB b).length ∧ (first ≤ gone → gone < first + (listedB b).length → (listedB (woB b first gone)).length < (listedB b).length)
  | [], first, gone => by simp [woB, listedB]
  | s :: r, first, gone => by
    obtain ⟨a1, a2⟩ := woB_size r (first + (listedS s).length) gone
    obtain ⟨b1, b2⟩ := woS_size s first gone
    have hp := listedS_pos s
    rw [woB]
    split
    · simp only [listedB, List.length_append]
      exact ⟨by omega, fun _ _ => by omega⟩
    · simp only [listedB, List.length_append]
      refine ⟨by omega, fun h1 h2 => ?_⟩
      by_cases h : gone < first + (listedS s).length
      · have := b2 (by omega) h; omega
      · have := a2 (by omega) (by omega); omega
end
def less (L : Loop) (n : Int) : Loop := { L with body := woB L.body 0 n }
theorem less_ok {L : Loop} {n : Int} (h : okL L = true) : okL (less L n) = true := by
  rw [okL_iff] at *
  obtain ⟨h1, h2, h3⟩ := h
  exact ⟨h1, (woB_ok _ _ _ _ h2).1, Nat.le_trans (woB_size _ _ _).1 h3⟩
def φ_body_without (d : Nat) : PFn := fun ds W Q _ => ∃ b first gone, ds = [encB b, .int first, .int gone] ∧ okB d b = true ∧ Q (encB (woB b first gone)) W
def φ_less_one : PFn := fun ds W Q _ => ∃ L n, ds = [encL L, .int n] ∧ okL L = true ∧ Q (encL (less L n)) W
def φ_words_of : PFn := fun ds W Q _ => ∃ L, ds = [encL L] ∧ okL L = true ∧ Q (.lst ((listedB L.body).map fun s => .str (wordS s))) W
def φ_statements (C : Addr) : PFn := fun ds W Q E => ∃ v, ds = [v] ∧ v.good = true ∧ (isLoop v = true → ∃ L, okL L = true ∧ v = encL L ∧ Q (.lst ((listedB L.body).map fun s => .str (wordS s))) W) ∧ (isLoop v = false → E ⟨.ref C, none⟩ W)
def φ_without (C C2 : Addr) : PFn := fun ds W Q E => ∃ v n, ds = [v, n] ∧ v.good = true ∧ n.dat = true ∧ (isLoop v = false → E ⟨.ref C, none⟩ W) ∧
  (isLoop v = true → ∃ L, okL L = true ∧ v = encL L ∧ (isNum n 0 ((listedB L.body).length - 1) = false → E ⟨.ref C2, none⟩ W) ∧ (∀ k, n = .int k → inR 0 ((listedB L.body).length - 1) k = true → Q (encL (less L k)) W))
/-! ### the laws' source of numbers -/
def Src (W : Addr → Option Own) (a : Addr) : Prop := ∃ x y : Int, W a = some (.lst [.int x, .int y])
def Dr (W : Addr → Option Own) (a : Addr) (W' : Addr → Option Own) : Prop := ∃ x y : Int, W' = updW W a (.lst [.int x, .int y])
theorem Dr.src {W W' : Addr → Option Own} {a : Addr} (h : Dr W a W') : Src W' a := by
  obtain ⟨x, y, rfl⟩ := h; exact ⟨x, y, updW_self ..⟩
theorem Dr.trans {W W' W'' : Addr → Option Own} {a : Addr} (h : Dr W a W') (h' : Dr W' a W'') : Dr W a W'' := by
  obtain ⟨x, y, rfl⟩ := h; obtain ⟨z, u, rfl⟩ := h'; exact ⟨z, u, updW_upd ..⟩
theorem Src.dr {W : Addr → Option Own} {a : Addr} (h : Src W a) : Dr W a W := by
  obtain ⟨x, y, h⟩ := h
  refine ⟨x, y, funext fun b => ?_⟩
  unfold updW
  split
  · rename_i e; subst e; exact h
  · rfl
def φ__law_draw : PFn := fun ds W Q _ => ∃ a m, ds = [.adr a, .int m] ∧ 0 < m ∧ m < 2 ^ 200 ∧ Src W a ∧ ∀ d W', 0 ≤ d → d < m → Dr W a W' → Q (.int d) W'
def φ__law_source : PFn := fun ds W Q _ => ∃ (xs : List Int) (k : Int), ds = [.lst (xs.map D.int), .int k] ∧ 0 ≤ k ∧ k ≤ 1000 ∧ ∀ a W', Dr W a W' → W a = none → Q (.adr a) W'
def seqD : D → Option (List D)
  | .lst xs => some xs
  | .tup xs => some xs
  | _ => none
def φ__law_of : PFn := fun ds W Q _ => ∃ a d xs, ds = [.adr a, d] ∧ seqD d = some xs ∧ xs ≠ [] ∧ xs.length ≤ 1000000 ∧ Src W a ∧ ∀ x W', x ∈ xs → Dr W a W' → Q x W'
/-- a statement that the laws draw -/
def simS : Stm → Bool
  | .ite _ _ _ => false
  | .set n => inR 1 8 n
  | .wait n => inR 1 8 n
  | .rest n => inR 1 8 n
  | .move n => inR 1 8 n
  | .ahead n => inR 1 8 n
  | .until => true
  | .up => true
  | .down => true
theorem simS_ok {s : Stm} (h : simS s = true) (d : Nat) : okS (d + 1) s = true := by
  cases s with
  | ite t a b => cases h
  | set n => simp only [simS, inR, Bool.and_eq_true, decide_eq_true_eq] at h; simp only [okS, inR, Bool.and_eq_true, decide_eq_true_eq]; omega
  | _ => exact h
def φ__law_simple : PFn := fun ds W Q _ => ∃ a, ds = [.adr a] ∧ Src W a ∧ ∀ s W', simS s = true → Dr W a W' → Q (encS s) W'
def φ__law_body (d : Nat) : PFn := fun ds W Q _ => ∃ a m, ds = [.adr a, .int d, .int m] ∧ 0 ≤ m ∧ m ≤ 8 ∧ Src W a ∧ ∀ b W', okB d b = true → (b.length : Int) ≤ m → Dr W a W' → Q (encB b) W'
def φ__law_size (d : Nat) : PFn := fun ds W Q _ => ∃ b, ds = [encB b] ∧ okB d b = true ∧ Q (.int (listedB b).length) W
def φ__law_known : PFn := fun ds W Q _ => ∃ a, ds = [.adr a] ∧ Src W a ∧ ∀ b W', okB 2 b = true → b.length ≤ 3 → Dr W a W' → Q (encB b) W'
def φ__law_bent : PFn := fun ds W Q _ => ∃ a b, ds = [.adr a, encB b] ∧ okB 3 b = true ∧ b.length ≤ 7 ∧ Src W a ∧ ∀ b' W', okB 3 b' = true → Dr W a W' → Q (encB b') W'
def lawL (L : Loop) : Prop := okL L = true ∧ L.least ≤ 2 ∧ L.most ≤ L.least + 3 ∧ L.first ≤ 5
def φ__law_loop : PFn := fun ds W Q _ => ∃ a, ds = [.adr a] ∧ Src W a ∧ ∀ L W', lawL L → Dr W a W' → Q (encL L) W'
def φ__law_cut (d : Nat) : PFn := fun ds W Q _ => ∃ b first gone, ds = [encB b, .int first, .int gone] ∧ okB d b = true ∧ Q (encB (woB b first gone)) W
def φ__law_less : PFn := φ_less_one
/-- loops' bodies that are known to be interesting -/
def knL (n m : Int) : List (List Stm) := [[.until, .move n], [.until, .ahead n], [.rest n], [.wait m], [.until, .set n], [.move n, .until, .ite .due [.wait m] []], [.until, .move n, .ite (.late m) [.set 0] []],
  [.ite .due [.ahead n, .wait m] [.until, .move n]], [.rest m, .until, .set n], [.ite .flag [.down, .wait m] [.up], .until, .ahead n]]
theorem knL_ok {n m : Int} (h1 : 1 ≤ n) (h2 : n ≤ 8) (h3 : 1 ≤ m) (h4 : m ≤ 8) : ∀ b ∈ knL n m, okB 2 b = true ∧ b.length ≤ 3 := by
  have e1 : inR 0 8 n = true := by simp only [inR, Bool.and_eq_true, decide_eq_true_eq]; omega
  have e2 : inR 1 8 n = true := by simp only [inR, Bool.and_eq_true, decide_eq_true_eq]; omega
  have e3 : inR 0 8 m = true := by simp only [inR, Bool.and_eq_true, decide_eq_true_eq]; omega
  have e4 : inR 1 8 m = true := by simp only [inR, Bool.and_eq_true, decide_eq_true_eq]; omega
  have e0 : inR 0 8 0 = true := by decide
  intro b hb
  simp only [knL, List.mem_cons, List.not_mem_nil, or_false] at hb
  rcases hb with rfl | rfl | rfl | rfl | rfl | rfl | rfl | rfl | rfl | rfl <;> simp [okB, okS, okT, e0, e1, e2, e3, e4]
def φ__law_refused : PFn := fun ds W Q _ => ∃ L v, ds = [encL L, v] ∧ okL L = true ∧ v.dat = true ∧ isNum v 0 ((listedB L.body).length - 1) = false ∧ Q (.bl true) W
/-- a law: it answers True -/
def φ_law : PFn := fun ds _ Q _ => ∃ xs : List Int, ds = [.lst (xs.map D.int)] ∧ xs.length ≤ 63 ∧ ∀ W', Q (.bl true) W'
end Kt
set_option Elab.async false
set_option linter.all false
set_option maxRecDepth 100000
set_option maxHeartbeats 4000000
namespace Kp
open PySem PySem.Spec L2 Pl Kt
open PyProof.Rows (envOfC boot_int boot_bool boot_str boot_tuple boot_list)
def topS (i : Nat) : Stmt := PySem.Challenge.pw_keptpace_k12_statements_left_out.main.body.getD i (.Pass ⟨0, 0, 0, 0⟩)
section
variable {P : Program} {w : World} {K : PySem.W.Frag} {mg : Str → Option Value} {base : Heap}
abbrev s_is_number : Stmt := topS 9
abbrev N_is_number : List Str := ["value", "least", "most"]
theorem sc_is_number : FnScope N_is_number ["value", "least", "most"] (defScope s_is_number) := ⟨rfl, rfl, rfl, by decide +kernel, rfl, by decide +kernel, by decide +kernel⟩
theorem ok_is_number  {k : Nat}  (T : TopD K mg "is_number" ["value", "least", "most"] s_is_number) (m_isinstance : mg "isinstance" = none) (m_bool : mg "bool" = none) (m_int : mg "int" = none)  :
    CallF P w K mg base "is_number" 3 (k + 1) (φ_is_number) := by
  refine call_of (N := N_is_number) (k := k) T sc_is_number fun f cdv A outer s H E hr => ⟨_, (pmss_one (pms_ret (pm_and (pm_callB cd_isi (by rfl) m_isinstance (by decide +kernel) (pma_cons (pm_var (pv 0)) (pma_cons (pm_ty (by rfl) m_int boot_int) pma_nil))) (pm_and (pm_not (pm_callB cd_isi (by rfl) m_isinstance (by decide +kernel) (pma_cons (pm_var (pv 0)) (pma_cons (pm_ty (by rfl) m_bool boot_bool) pma_nil)))) (pm_one (pm_chain od_le od_le (pm_var (pv 1)) (pm_var (pv 0)) (pm_var (pv 2)))))))), ?_⟩
  rintro ds Wo Q E' - ⟨v, a, b, rfl, hv, q⟩
  cases v <;> (try simp only [D.dat, Bool.false_eq_true] at hv)
  all_goals (try simp only [↓pC, ↓pOp, ↓pUn, ↓pSl, ↓pPart, ↓pNil, ↓pCons, ↓pTup, ↓pLst, ↓pCallB, ↓pTest, ↓pNot, ↓pAnd, ↓pOr, ↓pAndV, ↓pOrV, ↓pNotV, ↓pIf, ↓pNext, ↓pSeq, ↓pBreak, ↓pCont, ↓pDrop, ↓pRet, ↓pRetN, ↓pIfS, ↓pgNil, ↓pgCons, ↓pgTup, ↓pAsg, ↓pRaise, ↓pCall, ↓pIter, ↓pFor, ↓pLc, ↓pYes, ↓pkOf, ↓pIxK, ↓pTabG, ↓pLenK, ↓pChain, ↓pStore, ↓pAppend, ↓pPop, ↓poLst, ↓poDct, ↓pNewW, ↓pRng1, ↓pRng2, ↓pTry, ↓pTryAs, ↓oEq, ↓oNe, ↓oLen, ↓oSum, ↓oAll, ↓oAny, ↓oIsi, start0, List.map_cons, List.map_nil, List.length_cons, List.length_nil, List.cons_append, List.nil_append, List.getElem?_cons_zero, List.getElem?_cons_succ, List.set_cons_zero, List.set_cons_succ, List.replicate, D.bl.injEq, D.int.injEq, D.str.injEq, D.tup.injEq, D.lst.injEq, exists_eq_left', exists_eq_left, Option.some.injEq, Bool.false_eq_true, if_true, if_false, true_and, and_true, false_and, and_false, isi_int, isi_bool, isi_str, isi_tuple, isi_list, isiT_int, isiT_bool, isiT_str, isiT_tuple, isiT_list, Bool.not_true, Bool.not_false, dat_non, dat_bl, dat_int, dat_str, dat_tup, dat_lst, isInt_non, isInt_bl, isInt_int, isInt_str, isInt_tup, isInt_lst, isBool_non, isBool_bl, isBool_int, isBool_str, isBool_tup, isBool_lst, isStr_non, isStr_bl, isStr_int, isStr_str, isStr_tup, isStr_lst, isTup_non, isTup_bl, isTup_int, isTup_str, isTup_tup, isTup_lst, isLst_non, isLst_bl, isLst_int, isLst_str, isLst_tup, isLst_lst, Nat.reduceAdd, Nat.zero_add, sz_0, sz_1, sz_2, sz_3, sz_4, sz_5, sz_6, sz_7, sz_8, sz_9, sz_10, sz_11, sz_12, List.any_cons, List.any_nil, eqD_tup, eqD_str, eqD_int, eqDs_cons, eqDs_nil, eqDs_cn, eqDs_nc, Bool.or_false, Bool.and_true, at0, at1, at2, at3, at4, good_int, good_bl, good_nil, good_nilL, good_non, eqDs_nil_r, eqDs_nil_l, List.isEmpty_nil, List.isEmpty_cons, Bool.and_false, Bool.or_true, Bool.false_or, Bool.true_or, Bool.false_and, Bool.true_and, encB, wipS_mk, List.foldr_cons, List.foldr_nil, con_updW, ↓ixC_ownD, ↓oIx_tup, ↓oIx_lst, ↓oIx_str, ↓lenC_ownL, ↓lenC_ownD, ↓setC_ownD, putC_adr, Own_lst_inj, Con_own_inj, updW_upd, Nat.reduceSub, Nat.sub_self, ↓itD_lst, ↓itD_tup, ↓oInt_i, ↓oCmp_i, ↓oAdd_i, ↓oAdd_s, ↓oAdd_t, ↓oAdd_l, ↓oNeg_i, ↓o1I_i, ↓o2I_i, ↓oSl_t, ↓oSl_l, ↓oList_t, ↓oList_l, ↓oTuple_t, ↓oTuple_l, ↓oIn_t, ↓oIn_l, ↓oIsN_n, ↓ixC_ownLi, ↓setC_ownLi, ixN20, ixN21, ex_int1, ex_int2, ↓pSet_eq, ↓ixK_tup, ↓ixK_lst, ↓ixK_str, ↓ixK_dct, ↓lenK_tup, ↓lenK_lst, ↓lenK_str, ↓pSetO_eq, ↓pPar_eq, ↓kPar_mk, ↓pVarV0, ↓pVarV1, ↓pVarV2, ↓pVarL0, ↓pVarL1, ↓pVarL2, ↓pVarD0, ↓pVarD1, ↓pVarD2, ↓pkVarV0, ↓pkVarV1, ↓pkVarV2, ↓pkVarO0, ↓pkVarO1, ↓pkVarO2, ↓kSetN0, ↓kSetN1, ↓kSetN2, ↓kSetO_N0, ↓kSetO_N1, ↓kSetO_N2, ↓pgNameN0, ↓pgNameN1, ↓pgNameN2, ↓ixS0, ↓ixS1, ↓ixS2, ↓lenS0, ↓lenS1, ↓lenS2, ↓setS0, ↓setS1, ↓setS2, ↓conS0, ↓conS1, ↓conS2, ↓putS0, ↓putS1, ↓putS2])
  all_goals first | exact q | skip
  rename_i i
  unfold isNum at q
  by_cases h : a ≤ i
  · simpa [h] using q
  · simpa [h] using q
abbrev s_is_counted : Stmt := topS 10
abbrev N_is_counted : List Str := ["value", "words"]
theorem sc_is_counted : FnScope N_is_counted ["value", "words"] (defScope s_is_counted) := ⟨rfl, rfl, rfl, by decide +kernel, rfl, by decide +kernel, by decide +kernel⟩
theorem ok_is_counted  {k : Nat}  (T : TopD K mg "is_counted" ["value", "words"] s_is_counted) (c_is_number : CallF P w K mg base "is_number" 3 k (φ_is_number)) (g_MOST_TIME : GI mg "MOST_TIME" 8) (g_LEAST_NUMBERS : GT K w mg "LEAST_NUMBERS" tab_LEAST_NUMBERS) (m_len : mg "len" = none)  :
    CallF P w K mg base "is_counted" 2 (k + 1) (φ_is_counted) := by
  refine call_of (N := N_is_counted) (k := k) T sc_is_counted fun f cdv A outer s H E hr => ⟨_, (pmss_cons (pms_if (pmt_w (pmw_or (pmt_cmp (od_ne (Room.hu64 hr)) (pm_lenK (by rfl) m_len (pk_var (pv 0))) pm_int (nomark _)) (pmw_or1 (pmt_cmp (od_notIn (Room.hu65 hr)) (pm_ixK (Room.hu1 hr) (pk_var (pv 0)) pm_int (fun _ _ => rfl)) (pm_var (pv 1)) (by rfl))))) (pmss_one (pms_ret pm_bl)) pmss_nil)
      (pmss_one (pms_ret (pm_callF c_is_number hr (by rfl) (pma_cons (pm_ixK (Room.hu1 hr) (pk_var (pv 0)) pm_int (fun _ _ => rfl)) (pma_cons (pm_tabG g_LEAST_NUMBERS (by rfl) (pm_ixK (Room.hu1 hr) (pk_var (pv 0)) pm_int (fun _ _ => rfl)) (fun _ _ => rfl)) (pma_cons (pm_gi g_MOST_TIME (by rfl)) pma_nil))))))), ?_⟩
  rintro ds Wo Q E' - ⟨x, r, ws, rfl, g1, g2, hw, q⟩
  have gx := good_tup g1 _ (List.mem_cons_self ..)
  try simp only [↓pC, ↓pOp, ↓pUn, ↓pSl, ↓pPart, ↓pNil, ↓pCons, ↓pTup, ↓pLst, ↓pCallB, ↓pTest, ↓pNot, ↓pAnd, ↓pOr, ↓pAndV, ↓pOrV, ↓pNotV, ↓pIf, ↓pNext, ↓pSeq, ↓pBreak, ↓pCont, ↓pDrop, ↓pRet, ↓pRetN, ↓pIfS, ↓pgNil, ↓pgCons, ↓pgTup, ↓pAsg, ↓pRaise, ↓pCall, ↓pIter, ↓pFor, ↓pLc, ↓pYes, ↓pkOf, ↓pIxK, ↓pTabG, ↓pLenK, ↓pChain, ↓pStore, ↓pAppend, ↓pPop, ↓poLst, ↓poDct, ↓pNewW, ↓pRng1, ↓pRng2, ↓pTry, ↓pTryAs, ↓oEq, ↓oNe, ↓oLen, ↓oSum, ↓oAll, ↓oAny, ↓oIsi, start0, List.map_cons, List.map_nil, List.length_cons, List.length_nil, List.cons_append, List.nil_append, List.getElem?_cons_zero, List.getElem?_cons_succ, List.set_cons_zero, List.set_cons_succ, List.replicate, D.bl.injEq, D.int.injEq, D.str.injEq, D.tup.injEq, D.lst.injEq, exists_eq_left', exists_eq_left, Option.some.injEq, Bool.false_eq_true, if_true, if_false, true_and, and_true, false_and, and_false, isi_int, isi_bool, isi_str, isi_tuple, isi_list, isiT_int, isiT_bool, isiT_str, isiT_tuple, isiT_list, Bool.not_true, Bool.not_false, dat_non, dat_bl, dat_int, dat_str, dat_tup, dat_lst, isInt_non, isInt_bl, isInt_int, isInt_str, isInt_tup, isInt_lst, isBool_non, isBool_bl, isBool_int, isBool_str, isBool_tup, isBool_lst, isStr_non, isStr_bl, isStr_int, isStr_str, isStr_tup, isStr_lst, isTup_non, isTup_bl, isTup_int, isTup_str, isTup_tup, isTup_lst, isLst_non, isLst_bl, isLst_int, isLst_str, isLst_tup, isLst_lst, Nat.reduceAdd, Nat.zero_add, sz_0, sz_1, sz_2, sz_3, sz_4, sz_5, sz_6, sz_7, sz_8, sz_9, sz_10, sz_11, sz_12, List.any_cons, List.any_nil, eqD_tup, eqD_str, eqD_int, eqDs_cons, eqDs_nil, eqDs_cn, eqDs_nc, Bool.or_false, Bool.and_true, at0, at1, at2, at3, at4, good_int, good_bl, good_nil, good_nilL, good_non, eqDs_nil_r, eqDs_nil_l, List.isEmpty_nil, List.isEmpty_cons, Bool.and_false, Bool.or_true, Bool.false_or, Bool.true_or, Bool.false_and, Bool.true_and, encB, wipS_mk, List.foldr_cons, List.foldr_nil, con_updW, ↓ixC_ownD, ↓oIx_tup, ↓oIx_lst, ↓oIx_str, ↓lenC_ownL, ↓lenC_ownD, ↓setC_ownD, putC_adr, Own_lst_inj, Con_own_inj, updW_upd, Nat.reduceSub, Nat.sub_self, ↓itD_lst, ↓itD_tup, ↓oInt_i, ↓oCmp_i, ↓oAdd_i, ↓oAdd_s, ↓oAdd_t, ↓oAdd_l, ↓oNeg_i, ↓o1I_i, ↓o2I_i, ↓oSl_t, ↓oSl_l, ↓oList_t, ↓oList_l, ↓oTuple_t, ↓oTuple_l, ↓oIn_t, ↓oIn_l, ↓oIsN_n, ↓ixC_ownLi, ↓setC_ownLi, ixN20, ixN21, ex_int1, ex_int2, ↓pSet_eq, ↓ixK_tup, ↓ixK_lst, ↓ixK_str, ↓ixK_dct, ↓lenK_tup, ↓lenK_lst, ↓lenK_str, ↓pSetO_eq, ↓pPar_eq, ↓kPar_mk, ↓pVarV0, ↓pVarV1, ↓pVarL0, ↓pVarL1, ↓pVarD0, ↓pVarD1, ↓pkVarV0, ↓pkVarV1, ↓pkVarO0, ↓pkVarO1, ↓kSetN0, ↓kSetN1, ↓kSetO_N0, ↓kSetO_N1, ↓pgNameN0, ↓pgNameN1, ↓ixS0, ↓ixS1, ↓lenS0, ↓lenS1, ↓setS0, ↓setS1, ↓conS0, ↓conS1, ↓putS0, ↓putS1]
  have e2 : (((r.length + 1 : Nat) : Int) == 2) = decide (r.length = 1) := by
    rw [Bool.eq_iff_iff]; simp; omega
  simp only [e2]
  by_cases h1 : r.length = 1
  · match r, h1 with
    | [v], _ =>
      simp only [List.length_singleton, decide_true, Bool.not_true, Bool.false_eq_true, if_false, at0, at1, Option.some.injEq, exists_eq_left', gx, g2, true_and, any_words]
      by_cases h2 : ws.contains x = true
      · have hl := hw x (by simpa using h2)
        obtain ⟨n, hn⟩ := Option.isSome_iff_exists.mp hl
        have gv := good_tup g1 v (by simp)
        have hx : x ∈ ws := by simpa using h2
        simp only [h2, Bool.not_true, Bool.false_eq_true, if_false]
        refine ⟨x, _, rfl, tab_least hn, v, n, 8, rfl, good_dat gv, ?_⟩
        unfold isCounted at q
        simpa [hx, hn] using q
      · have hx : ¬ x ∈ ws := by simpa using h2
        unfold isCounted at q
        simpa [hx] using q
  · unfold isCounted at q
    split at q
    · exact absurd rfl h1
    · simpa [h1] using q
abbrev s_is_worded : Stmt := topS 11
abbrev N_is_worded : List Str := ["value"]
theorem sc_is_worded : FnScope N_is_worded ["value"] (defScope s_is_worded) := ⟨rfl, rfl, rfl, by decide +kernel, rfl, by decide +kernel, by decide +kernel⟩
theorem ok_is_worded  {k : Nat}  (T : TopD K mg "is_worded" ["value"] s_is_worded) (m_isinstance : mg "isinstance" = none) (m_str : mg "str" = none) (m_tuple : mg "tuple" = none)  :
    CallF P w K mg base "is_worded" 1 (k + 1) (φ_is_worded) := by
  refine call_of (N := N_is_worded) (k := k) T sc_is_worded fun f cdv A outer s H E hr => ⟨_, (pmss_one (pms_ret (pm_and (pm_callB cd_isi (by rfl) m_isinstance (by decide +kernel) (pma_cons (pm_var (pv 0)) (pma_cons (pm_ty (by rfl) m_tuple boot_tuple) pma_nil))) (pm_and (pm_cmp (od_ne (Room.hu64 hr)) (pm_var (pv 0)) (pm_tup pma_nil) (nomark _)) (pm_one (pm_callB cd_isi (by rfl) m_isinstance (by decide +kernel) (pma_cons (pm_ixK (Room.hu1 hr) (pk_var (pv 0)) pm_int (fun _ _ => rfl)) (pma_cons (pm_ty (by rfl) m_str boot_str) pma_nil)))))))), ?_⟩
  rintro ds Wo Q E' - ⟨v, rfl, hv, q⟩
  cases v with
  | tup xs =>
    cases xs with
    | nil =>
      try simp only [↓pC, ↓pOp, ↓pUn, ↓pSl, ↓pPart, ↓pNil, ↓pCons, ↓pTup, ↓pLst, ↓pCallB, ↓pTest, ↓pNot, ↓pAnd, ↓pOr, ↓pAndV, ↓pOrV, ↓pNotV, ↓pIf, ↓pNext, ↓pSeq, ↓pBreak, ↓pCont, ↓pDrop, ↓pRet, ↓pRetN, ↓pIfS, ↓pgNil, ↓pgCons, ↓pgTup, ↓pAsg, ↓pRaise, ↓pCall, ↓pIter, ↓pFor, ↓pLc, ↓pYes, ↓pkOf, ↓pIxK, ↓pTabG, ↓pLenK, ↓pChain, ↓pStore, ↓pAppend, ↓pPop, ↓poLst, ↓poDct, ↓pNewW, ↓pRng1, ↓pRng2, ↓pTry, ↓pTryAs, ↓oEq, ↓oNe, ↓oLen, ↓oSum, ↓oAll, ↓oAny, ↓oIsi, start0, List.map_cons, List.map_nil, List.length_cons, List.length_nil, List.cons_append, List.nil_append, List.getElem?_cons_zero, List.getElem?_cons_succ, List.set_cons_zero, List.set_cons_succ, List.replicate, D.bl.injEq, D.int.injEq, D.str.injEq, D.tup.injEq, D.lst.injEq, exists_eq_left', exists_eq_left, Option.some.injEq, Bool.false_eq_true, if_true, if_false, true_and, and_true, false_and, and_false, isi_int, isi_bool, isi_str, isi_tuple, isi_list, isiT_int, isiT_bool, isiT_str, isiT_tuple, isiT_list, Bool.not_true, Bool.not_false, dat_non, dat_bl, dat_int, dat_str, dat_tup, dat_lst, isInt_non, isInt_bl, isInt_int, isInt_str, isInt_tup, isInt_lst, isBool_non, isBool_bl, isBool_int, isBool_str, isBool_tup, isBool_lst, isStr_non, isStr_bl, isStr_int, isStr_str, isStr_tup, isStr_lst, isTup_non, isTup_bl, isTup_int, isTup_str, isTup_tup, isTup_lst, isLst_non, isLst_bl, isLst_int, isLst_str, isLst_tup, isLst_lst, Nat.reduceAdd, Nat.zero_add, sz_0, sz_1, sz_2, sz_3, sz_4, sz_5, sz_6, sz_7, sz_8, sz_9, sz_10, sz_11, sz_12, List.any_cons, List.any_nil, eqD_tup, eqD_str, eqD_int, eqDs_cons, eqDs_nil, eqDs_cn, eqDs_nc, Bool.or_false, Bool.and_true, at0, at1, at2, at3, at4, good_int, good_bl, good_nil, good_nilL, good_non, eqDs_nil_r, eqDs_nil_l, List.isEmpty_nil, List.isEmpty_cons, Bool.and_false, Bool.or_true, Bool.false_or, Bool.true_or, Bool.false_and, Bool.true_and, encB, wipS_mk, List.foldr_cons, List.foldr_nil, con_updW, ↓ixC_ownD, ↓oIx_tup, ↓oIx_lst, ↓oIx_str, ↓lenC_ownL, ↓lenC_ownD, ↓setC_ownD, putC_adr, Own_lst_inj, Con_own_inj, updW_upd, Nat.reduceSub, Nat.sub_self, ↓itD_lst, ↓itD_tup, ↓oInt_i, ↓oCmp_i, ↓oAdd_i, ↓oAdd_s, ↓oAdd_t, ↓oAdd_l, ↓oNeg_i, ↓o1I_i, ↓o2I_i, ↓oSl_t, ↓oSl_l, ↓oList_t, ↓oList_l, ↓oTuple_t, ↓oTuple_l, ↓oIn_t, ↓oIn_l, ↓oIsN_n, ↓ixC_ownLi, ↓setC_ownLi, ixN20, ixN21, ex_int1, ex_int2, ↓pSet_eq, ↓ixK_tup, ↓ixK_lst, ↓ixK_str, ↓ixK_dct, ↓lenK_tup, ↓lenK_lst, ↓lenK_str, ↓pSetO_eq, ↓pPar_eq, ↓kPar_mk, ↓pVarV0, ↓pVarL0, ↓pVarD0, ↓pkVarV0, ↓pkVarO0, ↓kSetN0, ↓kSetO_N0, ↓pgNameN0, ↓ixS0, ↓lenS0, ↓setS0, ↓conS0, ↓putS0]
      exact q
    | cons x r =>
      have gx := good_tup hv x (List.mem_cons_self ..)
      try simp only [↓pC, ↓pOp, ↓pUn, ↓pSl, ↓pPart, ↓pNil, ↓pCons, ↓pTup, ↓pLst, ↓pCallB, ↓pTest, ↓pNot, ↓pAnd, ↓pOr, ↓pAndV, ↓pOrV, ↓pNotV, ↓pIf, ↓pNext, ↓pSeq, ↓pBreak, ↓pCont, ↓pDrop, ↓pRet, ↓pRetN, ↓pIfS, ↓pgNil, ↓pgCons, ↓pgTup, ↓pAsg, ↓pRaise, ↓pCall, ↓pIter, ↓pFor, ↓pLc, ↓pYes, ↓pkOf, ↓pIxK, ↓pTabG, ↓pLenK, ↓pChain, ↓pStore, ↓pAppend, ↓pPop, ↓poLst, ↓poDct, ↓pNewW, ↓pRng1, ↓pRng2, ↓pTry, ↓pTryAs, ↓oEq, ↓oNe, ↓oLen, ↓oSum, ↓oAll, ↓oAny, ↓oIsi, start0, List.map_cons, List.map_nil, List.length_cons, List.length_nil, List.cons_append, List.nil_append, List.getElem?_cons_zero, List.getElem?_cons_succ, List.set_cons_zero, List.set_cons_succ, List.replicate, D.bl.injEq, D.int.injEq, D.str.injEq, D.tup.injEq, D.lst.injEq, exists_eq_left', exists_eq_left, Option.some.injEq, Bool.false_eq_true, if_true, if_false, true_and, and_true, false_and, and_false, isi_int, isi_bool, isi_str, isi_tuple, isi_list, isiT_int, isiT_bool, isiT_str, isiT_tuple, isiT_list, Bool.not_true, Bool.not_false, dat_non, dat_bl, dat_int, dat_str, dat_tup, dat_lst, isInt_non, isInt_bl, isInt_int, isInt_str, isInt_tup, isInt_lst, isBool_non, isBool_bl, isBool_int, isBool_str, isBool_tup, isBool_lst, isStr_non, isStr_bl, isStr_int, isStr_str, isStr_tup, isStr_lst, isTup_non, isTup_bl, isTup_int, isTup_str, isTup_tup, isTup_lst, isLst_non, isLst_bl, isLst_int, isLst_str, isLst_tup, isLst_lst, Nat.reduceAdd, Nat.zero_add, sz_0, sz_1, sz_2, sz_3, sz_4, sz_5, sz_6, sz_7, sz_8, sz_9, sz_10, sz_11, sz_12, List.any_cons, List.any_nil, eqD_tup, eqD_str, eqD_int, eqDs_cons, eqDs_nil, eqDs_cn, eqDs_nc, Bool.or_false, Bool.and_true, at0, at1, at2, at3, at4, good_int, good_bl, good_nil, good_nilL, good_non, eqDs_nil_r, eqDs_nil_l, List.isEmpty_nil, List.isEmpty_cons, Bool.and_false, Bool.or_true, Bool.false_or, Bool.true_or, Bool.false_and, Bool.true_and, encB, wipS_mk, List.foldr_cons, List.foldr_nil, con_updW, ↓ixC_ownD, ↓oIx_tup, ↓oIx_lst, ↓oIx_str, ↓lenC_ownL, ↓lenC_ownD, ↓setC_ownD, putC_adr, Own_lst_inj, Con_own_inj, updW_upd, Nat.reduceSub, Nat.sub_self, ↓itD_lst, ↓itD_tup, ↓oInt_i, ↓oCmp_i, ↓oAdd_i, ↓oAdd_s, ↓oAdd_t, ↓oAdd_l, ↓oNeg_i, ↓o1I_i, ↓o2I_i, ↓oSl_t, ↓oSl_l, ↓oList_t, ↓oList_l, ↓oTuple_t, ↓oTuple_l, ↓oIn_t, ↓oIn_l, ↓oIsN_n, ↓ixC_ownLi, ↓setC_ownLi, ixN20, ixN21, ex_int1, ex_int2, ↓pSet_eq, ↓ixK_tup, ↓ixK_lst, ↓ixK_str, ↓ixK_dct, ↓lenK_tup, ↓lenK_lst, ↓lenK_str, ↓pSetO_eq, ↓pPar_eq, ↓kPar_mk, ↓pVarV0, ↓pVarL0, ↓pVarD0, ↓pkVarV0, ↓pkVarO0, ↓kSetN0, ↓kSetO_N0, ↓pgNameN0, ↓ixS0, ↓lenS0, ↓setS0, ↓conS0, ↓putS0]
      simp only [hv, good_dat gx, true_and]
      cases x <;> exact q
  | dct _ _ => simp [D.good, D.plain] at hv
  | adr _ => simp [D.good, D.plain] at hv
  | ty _ => simp [D.good, D.plain] at hv
  | _ =>
    try simp only [↓pC, ↓pOp, ↓pUn, ↓pSl, ↓pPart, ↓pNil, ↓pCons, ↓pTup, ↓pLst, ↓pCallB, ↓pTest, ↓pNot, ↓pAnd, ↓pOr, ↓pAndV, ↓pOrV, ↓pNotV, ↓pIf, ↓pNext, ↓pSeq, ↓pBreak, ↓pCont, ↓pDrop, ↓pRet, ↓pRetN, ↓pIfS, ↓pgNil, ↓pgCons, ↓pgTup, ↓pAsg, ↓pRaise, ↓pCall, ↓pIter, ↓pFor, ↓pLc, ↓pYes, ↓pkOf, ↓pIxK, ↓pTabG, ↓pLenK, ↓pChain, ↓pStore, ↓pAppend, ↓pPop, ↓poLst, ↓poDct, ↓pNewW, ↓pRng1, ↓pRng2, ↓pTry, ↓pTryAs, ↓oEq, ↓oNe, ↓oLen, ↓oSum, ↓oAll, ↓oAny, ↓oIsi, start0, List.map_cons, List.map_nil, List.length_cons, List.length_nil, List.cons_append, List.nil_append, List.getElem?_cons_zero, List.getElem?_cons_succ, List.set_cons_zero, List.set_cons_succ, List.replicate, D.bl.injEq, D.int.injEq, D.str.injEq, D.tup.injEq, D.lst.injEq, exists_eq_left', exists_eq_left, Option.some.injEq, Bool.false_eq_true, if_true, if_false, true_and, and_true, false_and, and_false, isi_int, isi_bool, isi_str, isi_tuple, isi_list, isiT_int, isiT_bool, isiT_str, isiT_tuple, isiT_list, Bool.not_true, Bool.not_false, dat_non, dat_bl, dat_int, dat_str, dat_tup, dat_lst, isInt_non, isInt_bl, isInt_int, isInt_str, isInt_tup, isInt_lst, isBool_non, isBool_bl, isBool_int, isBool_str, isBool_tup, isBool_lst, isStr_non, isStr_bl, isStr_int, isStr_str, isStr_tup, isStr_lst, isTup_non, isTup_bl, isTup_int, isTup_str, isTup_tup, isTup_lst, isLst_non, isLst_bl, isLst_int, isLst_str, isLst_tup, isLst_lst, Nat.reduceAdd, Nat.zero_add, sz_0, sz_1, sz_2, sz_3, sz_4, sz_5, sz_6, sz_7, sz_8, sz_9, sz_10, sz_11, sz_12, List.any_cons, List.any_nil, eqD_tup, eqD_str, eqD_int, eqDs_cons, eqDs_nil, eqDs_cn, eqDs_nc, Bool.or_false, Bool.and_true, at0, at1, at2, at3, at4, good_int, good_bl, good_nil, good_nilL, good_non, eqDs_nil_r, eqDs_nil_l, List.isEmpty_nil, List.isEmpty_cons, Bool.and_false, Bool.or_true, Bool.false_or, Bool.true_or, Bool.false_and, Bool.true_and, encB, wipS_mk, List.foldr_cons, List.foldr_nil, con_updW, ↓ixC_ownD, ↓oIx_tup, ↓oIx_lst, ↓oIx_str, ↓lenC_ownL, ↓lenC_ownD, ↓setC_ownD, putC_adr, Own_lst_inj, Con_own_inj, updW_upd, Nat.reduceSub, Nat.sub_self, ↓itD_lst, ↓itD_tup, ↓oInt_i, ↓oCmp_i, ↓oAdd_i, ↓oAdd_s, ↓oAdd_t, ↓oAdd_l, ↓oNeg_i, ↓o1I_i, ↓o2I_i, ↓oSl_t, ↓oSl_l, ↓oList_t, ↓oList_l, ↓oTuple_t, ↓oTuple_l, ↓oIn_t, ↓oIn_l, ↓oIsN_n, ↓ixC_ownLi, ↓setC_ownLi, ixN20, ixN21, ex_int1, ex_int2, ↓pSet_eq, ↓ixK_tup, ↓ixK_lst, ↓ixK_str, ↓ixK_dct, ↓lenK_tup, ↓lenK_lst, ↓lenK_str, ↓pSetO_eq, ↓pPar_eq, ↓kPar_mk, ↓pVarV0, ↓pVarL0, ↓pVarD0, ↓pkVarV0, ↓pkVarO0, ↓kSetN0, ↓kSetO_N0, ↓pgNameN0, ↓ixS0, ↓lenS0, ↓setS0, ↓conS0, ↓putS0]
    exact q
abbrev s_is_test : Stmt := topS 12
abbrev N_is_test : List Str := ["value"]
theorem sc_is_test : FnScope N_is_test ["value"] (defScope s_is_test) := ⟨rfl, rfl, rfl, by decide +kernel, rfl, by decide +kernel, by decide +kernel⟩
theorem ok_is_test  {k : Nat}  (T : TopD K mg "is_test" ["value"] s_is_test) (c_is_counted : CallF P w K mg base "is_counted" 2 k (φ_is_counted)) (c_is_worded : CallF P w K mg base "is_worded" 1 k (φ_is_worded))  :
    CallF P w K mg base "is_test" 1 (k + 1) (φ_is_test) := by
  refine call_of (N := N_is_test) (k := k) T sc_is_test fun f cdv A outer s H E hr => ⟨_, (pmss_cons (pms_if (pmt_not (pmt_val (pm_callF c_is_worded hr (by rfl) (pma_cons (pm_var (pv 0)) pma_nil)))) (pmss_one (pms_ret pm_bl)) pmss_nil)
      (pmss_one (pms_ret (pm_or (pm_cmp (od_in (Room.hu65 hr)) (pm_var (pv 0)) (pm_tup (pma_cons (pm_tup (pma_cons pm_str pma_nil)) (pma_cons (pm_tup (pma_cons pm_str pma_nil)) pma_nil))) (by rfl)) (pm_one (pm_callF c_is_counted hr (by rfl) (pma_cons (pm_var (pv 0)) (pma_cons (pm_tup (pma_cons pm_str pma_nil)) pma_nil)))))))), ?_⟩
  rintro ds Wo Q E' - ⟨v, rfl, hv, q⟩
  have hq : ∀ b, isTest v = b → Q (.bl b) Wo := fun b h => h ▸ q
  try simp only [↓pC, ↓pOp, ↓pUn, ↓pSl, ↓pPart, ↓pNil, ↓pCons, ↓pTup, ↓pLst, ↓pCallB, ↓pTest, ↓pNot, ↓pAnd, ↓pOr, ↓pAndV, ↓pOrV, ↓pNotV, ↓pIf, ↓pNext, ↓pSeq, ↓pBreak, ↓pCont, ↓pDrop, ↓pRet, ↓pRetN, ↓pIfS, ↓pgNil, ↓pgCons, ↓pgTup, ↓pAsg, ↓pRaise, ↓pCall, ↓pIter, ↓pFor, ↓pLc, ↓pYes, ↓pkOf, ↓pIxK, ↓pTabG, ↓pLenK, ↓pChain, ↓pStore, ↓pAppend, ↓pPop, ↓poLst, ↓poDct, ↓pNewW, ↓pRng1, ↓pRng2, ↓pTry, ↓pTryAs, ↓oEq, ↓oNe, ↓oLen, ↓oSum, ↓oAll, ↓oAny, ↓oIsi, start0, List.map_cons, List.map_nil, List.length_cons, List.length_nil, List.cons_append, List.nil_append, List.getElem?_cons_zero, List.getElem?_cons_succ, List.set_cons_zero, List.set_cons_succ, List.replicate, D.bl.injEq, D.int.injEq, D.str.injEq, D.tup.injEq, D.lst.injEq, exists_eq_left', exists_eq_left, Option.some.injEq, Bool.false_eq_true, if_true, if_false, true_and, and_true, false_and, and_false, isi_int, isi_bool, isi_str, isi_tuple, isi_list, isiT_int, isiT_bool, isiT_str, isiT_tuple, isiT_list, Bool.not_true, Bool.not_false, dat_non, dat_bl, dat_int, dat_str, dat_tup, dat_lst, isInt_non, isInt_bl, isInt_int, isInt_str, isInt_tup, isInt_lst, isBool_non, isBool_bl, isBool_int, isBool_str, isBool_tup, isBool_lst, isStr_non, isStr_bl, isStr_int, isStr_str, isStr_tup, isStr_lst, isTup_non, isTup_bl, isTup_int, isTup_str, isTup_tup, isTup_lst, isLst_non, isLst_bl, isLst_int, isLst_str, isLst_tup, isLst_lst, Nat.reduceAdd, Nat.zero_add, sz_0, sz_1, sz_2, sz_3, sz_4, sz_5, sz_6, sz_7, sz_8, sz_9, sz_10, sz_11, sz_12, List.any_cons, List.any_nil, eqD_tup, eqD_str, eqD_int, eqDs_cons, eqDs_nil, eqDs_cn, eqDs_nc, Bool.or_false, Bool.and_true, at0, at1, at2, at3, at4, good_int, good_bl, good_nil, good_nilL, good_non, eqDs_nil_r, eqDs_nil_l, List.isEmpty_nil, List.isEmpty_cons, Bool.and_false, Bool.or_true, Bool.false_or, Bool.true_or, Bool.false_and, Bool.true_and, encB, wipS_mk, List.foldr_cons, List.foldr_nil, con_updW, ↓ixC_ownD, ↓oIx_tup, ↓oIx_lst, ↓oIx_str, ↓lenC_ownL, ↓lenC_ownD, ↓setC_ownD, putC_adr, Own_lst_inj, Con_own_inj, updW_upd, Nat.reduceSub, Nat.sub_self, ↓itD_lst, ↓itD_tup, ↓oInt_i, ↓oCmp_i, ↓oAdd_i, ↓oAdd_s, ↓oAdd_t, ↓oAdd_l, ↓oNeg_i, ↓o1I_i, ↓o2I_i, ↓oSl_t, ↓oSl_l, ↓oList_t, ↓oList_l, ↓oTuple_t, ↓oTuple_l, ↓oIn_t, ↓oIn_l, ↓oIsN_n, ↓ixC_ownLi, ↓setC_ownLi, ixN20, ixN21, ex_int1, ex_int2, ↓pSet_eq, ↓ixK_tup, ↓ixK_lst, ↓ixK_str, ↓ixK_dct, ↓lenK_tup, ↓lenK_lst, ↓lenK_str, ↓pSetO_eq, ↓pPar_eq, ↓kPar_mk, ↓pVarV0, ↓pVarL0, ↓pVarD0, ↓pkVarV0, ↓pkVarO0, ↓kSetN0, ↓kSetO_N0, ↓pgNameN0, ↓ixS0, ↓lenS0, ↓setS0, ↓conS0, ↓putS0]
  refine ⟨v, rfl, hv, _, rfl, ?_⟩
  cases hw : isWorded v with
  | false => exact hq false (isTest_worded hw)
  | true =>
    have g2 : D.good (.tup [.tup [.str "due"], .tup [.str "flag"]]) = true := by decide +kernel
    simp only [hv, g2, Bool.not_true, Bool.false_eq_true, if_false, true_and]
    unfold isWorded at hw
    split at hw
    · rename_i x r
      simp only [eqD_tup, eqDs_cons, eqD_str, eqDs_nil_l, Bool.or_false]
      refine ite2 (fun c => ?_) (fun c => ?_)
      · refine hq true ?_
        cases r with
        | nil =>
          simp only [List.isEmpty_nil, Bool.and_true, Bool.or_eq_true, beq_iff_eq] at c
          rcases c with rfl | rfl <;> rfl
        | cons n r => simp at c
      · refine ⟨x, r, ["late"], rfl, hv, (by decide +kernel), (fun y hy => ?_), hq _ ?_⟩
        · have e : y = "late" := by simpa using hy
          subst e; rfl
        · cases r with
          | nil =>
            simp only [List.isEmpty_nil, Bool.and_true, Bool.or_eq_true, beq_iff_eq, not_or] at c
            simp [isTest, isCounted, Ne.symm c.1, Ne.symm c.2]
          | cons n r =>
            cases r with
            | nil =>
              by_cases hx : x = "late"
              · subst hx; simp [isTest, isCounted, leastOf]
              · simp [isTest, isCounted, hx]
            | cons m r => simp [isTest, isCounted]
    · cases hw
abbrev s_is_statement : Stmt := topS 13
abbrev N_is_statement : List Str := ["value", "deep", "body"]
theorem sc_is_statement : FnScope N_is_statement ["value", "deep"] (defScope s_is_statement) := ⟨rfl, rfl, rfl, by decide +kernel, rfl, by decide +kernel, by decide +kernel⟩
theorem ok_is_statement {d : Nat} {k : Nat}  (T : TopD K mg "is_statement" ["value", "deep"] s_is_statement) (c_is_counted : CallF P w K mg base "is_counted" 2 k (φ_is_counted)) (m_all : mg "all" = none) (c_is_body : CallF P w K mg base "is_body" 2 k (φ_is_body' d)) (c_is_test : CallF P w K mg base "is_test" 1 k (φ_is_test)) (m_len : mg "len" = none) (c_is_worded : CallF P w K mg base "is_worded" 1 k (φ_is_worded))  :
    CallF P w K mg base "is_statement" 2 (k + 1) (φ_is_statement d) := by
  refine call_of (N := N_is_statement) (k := k) T sc_is_statement fun f cdv A outer s H E hr => ⟨_, (pmss_cons (pms_if (pmt_w (pmw_or (pmt_not (pmt_val (pm_callF c_is_worded hr (by rfl) (pma_cons (pm_var (pv 0)) pma_nil)))) (pmw_or1 (pmt_cmp od_lt (pm_var (pv 1)) pm_int (nomark _))))) (pmss_one (pms_ret pm_bl)) pmss_nil)
      (pmss_cons (pms_if (pmt_cmp (od_eq (Room.hu64 hr)) (pm_ixK (Room.hu1 hr) (pk_var (pv 0)) pm_int (fun _ _ => rfl)) pm_str (nomark _)) (pmss_one (pms_ret (pm_and (pm_cmp (od_eq (Room.hu64 hr)) (pm_lenK (by rfl) m_len (pk_var (pv 0))) pm_int (nomark _)) (pm_and (pm_callF c_is_test hr (by rfl) (pma_cons (pm_ixK (Room.hu1 hr) (pk_var (pv 0)) pm_int (fun _ _ => rfl)) pma_nil)) (pm_one (pm_callB (cd_all rfl) (by rfl) m_all (by decide +kernel) (pma_cons (pm_lc (own := [("body", 2)]) rfl sc_is_statement.nd (pmi_seq (pm_slice sld (pm_var (pv 0)) (.inr ⟨_, _, rfl, rfl, pm_int⟩) (.inl ⟨rfl, rfl⟩))) (blkOk_by (own := [("body", 2)]) (N := N_is_statement) (sc := defScope s_is_statement) (by decide +kernel)) (fun _ _ _ _ _ => (pmg_of (vs := [2]) (pg_name (i := 2) sc_is_statement.nd rfl (.inl rfl)))) (fun _ _ _ _ _ => pmts_nil) (fun _ _ _ _ _ => (pm_callF c_is_body hr (by rfl) (pma_cons (pm_var (pv 2)) (pma_cons (pm_op od_sub (pm_var (pv 1)) pm_int) pma_nil))))) pma_nil))))))) pmss_nil)
      (pmss_cons (pms_if (pmt_cmp (od_in (Room.hu65 hr)) (pm_var (pv 0)) (pm_tup (pma_cons (pm_tup (pma_cons pm_str pma_nil)) (pma_cons (pm_tup (pma_cons pm_str pma_nil)) (pma_cons (pm_tup (pma_cons pm_str pma_nil)) pma_nil)))) (by rfl)) (pmss_one (pms_ret pm_bl)) pmss_nil)
      (pmss_one (pms_ret (pm_callF c_is_counted hr (by rfl) (pma_cons (pm_var (pv 0)) (pma_cons (pm_tup (pma_cons pm_str (pma_cons pm_str (pma_cons pm_str (pma_cons pm_str (pma_cons pm_str pma_nil)))))) pma_nil)))))))), ?_⟩
  rintro ds Wo Q E' - ⟨v, rfl, hv, q⟩
  have hq : ∀ b, isStm d v = b → Q (.bl b) Wo := fun b h => h ▸ q
  try simp only [↓pC, ↓pOp, ↓pUn, ↓pSl, ↓pPart, ↓pNil, ↓pCons, ↓pTup, ↓pLst, ↓pCallB, ↓pTest, ↓pNot, ↓pAnd, ↓pOr, ↓pAndV, ↓pOrV, ↓pNotV, ↓pIf, ↓pNext, ↓pSeq, ↓pBreak, ↓pCont, ↓pDrop, ↓pRet, ↓pRetN, ↓pIfS, ↓pgNil, ↓pgCons, ↓pgTup, ↓pAsg, ↓pRaise, ↓pCall, ↓pIter, ↓pFor, ↓pLc, ↓pYes, ↓pkOf, ↓pIxK, ↓pTabG, ↓pLenK, ↓pChain, ↓pStore, ↓pAppend, ↓pPop, ↓poLst, ↓poDct, ↓pNewW, ↓pRng1, ↓pRng2, ↓pTry, ↓pTryAs, ↓oEq, ↓oNe, ↓oLen, ↓oSum, ↓oAll, ↓oAny, ↓oIsi, start0, List.map_cons, List.map_nil, List.length_cons, List.length_nil, List.cons_append, List.nil_append, List.getElem?_cons_zero, List.getElem?_cons_succ, List.set_cons_zero, List.set_cons_succ, List.replicate, D.bl.injEq, D.int.injEq, D.str.injEq, D.tup.injEq, D.lst.injEq, exists_eq_left', exists_eq_left, Option.some.injEq, Bool.false_eq_true, if_true, if_false, true_and, and_true, false_and, and_false, isi_int, isi_bool, isi_str, isi_tuple, isi_list, isiT_int, isiT_bool, isiT_str, isiT_tuple, isiT_list, Bool.not_true, Bool.not_false, dat_non, dat_bl, dat_int, dat_str, dat_tup, dat_lst, isInt_non, isInt_bl, isInt_int, isInt_str, isInt_tup, isInt_lst, isBool_non, isBool_bl, isBool_int, isBool_str, isBool_tup, isBool_lst, isStr_non, isStr_bl, isStr_int, isStr_str, isStr_tup, isStr_lst, isTup_non, isTup_bl, isTup_int, isTup_str, isTup_tup, isTup_lst, isLst_non, isLst_bl, isLst_int, isLst_str, isLst_tup, isLst_lst, Nat.reduceAdd, Nat.zero_add, sz_0, sz_1, sz_2, sz_3, sz_4, sz_5, sz_6, sz_7, sz_8, sz_9, sz_10, sz_11, sz_12, List.any_cons, List.any_nil, eqD_tup, eqD_str, eqD_int, eqDs_cons, eqDs_nil, eqDs_cn, eqDs_nc, Bool.or_false, Bool.and_true, at0, at1, at2, at3, at4, good_int, good_bl, good_nil, good_nilL, good_non, eqDs_nil_r, eqDs_nil_l, List.isEmpty_nil, List.isEmpty_cons, Bool.and_false, Bool.or_true, Bool.false_or, Bool.true_or, Bool.false_and, Bool.true_and, encB, wipS_mk, List.foldr_cons, List.foldr_nil, con_updW, ↓ixC_ownD, ↓oIx_tup, ↓oIx_lst, ↓oIx_str, ↓lenC_ownL, ↓lenC_ownD, ↓setC_ownD, putC_adr, Own_lst_inj, Con_own_inj, updW_upd, Nat.reduceSub, Nat.sub_self, ↓itD_lst, ↓itD_tup, ↓oInt_i, ↓oCmp_i, ↓oAdd_i, ↓oAdd_s, ↓oAdd_t, ↓oAdd_l, ↓oNeg_i, ↓o1I_i, ↓o2I_i, ↓oSl_t, ↓oSl_l, ↓oList_t, ↓oList_l, ↓oTuple_t, ↓oTuple_l, ↓oIn_t, ↓oIn_l, ↓oIsN_n, ↓ixC_ownLi, ↓setC_ownLi, ixN20, ixN21, ex_int1, ex_int2, ↓pSet_eq, ↓ixK_tup, ↓ixK_lst, ↓ixK_str, ↓ixK_dct, ↓lenK_tup, ↓lenK_lst, ↓lenK_str, ↓pSetO_eq, ↓pPar_eq, ↓kPar_mk, ↓pVarV0, ↓pVarV1, ↓pVarV2, ↓pVarL0, ↓pVarL1, ↓pVarL2, ↓pVarD0, ↓pVarD1, ↓pVarD2, ↓pkVarV0, ↓pkVarV1, ↓pkVarV2, ↓pkVarO0, ↓pkVarO1, ↓pkVarO2, ↓kSetN0, ↓kSetN1, ↓kSetN2, ↓kSetO_N0, ↓kSetO_N1, ↓kSetO_N2, ↓pgNameN0, ↓pgNameN1, ↓pgNameN2, ↓ixS0, ↓ixS1, ↓ixS2, ↓lenS0, ↓lenS1, ↓lenS2, ↓setS0, ↓setS1, ↓setS2, ↓conS0, ↓conS1, ↓conS2, ↓putS0, ↓putS1, ↓putS2]
  refine ⟨v, rfl, hv, _, rfl, ?_⟩
  cases hw : isWorded v with
  | false => exact hq false (isStm_worded hw)
  | true =>
    simp only [Bool.not_true, Bool.false_eq_true, if_false, decide_eq_true_eq]
    cases d with
    | zero => simpa using hq false rfl
    | succ d =>
      have e1 : ¬ ((d + 1 : Nat) : Int) < 1 := by omega
      rw [if_neg e1]
      unfold isWorded at hw
      split at hw
      · rename_i x r
        have g2 : D.good (.tup [.tup [.str "until"], .tup [.str "up"], .tup [.str "down"]]) = true := by decide +kernel
        have gm := good_tup hv
        try simp only [eqD_x_str, beq_iff_eq, ↓pC, ↓pOp, ↓pUn, ↓pSl, ↓pPart, ↓pNil, ↓pCons, ↓pTup, ↓pLst, ↓pCallB, ↓pTest, ↓pNot, ↓pAnd, ↓pOr, ↓pAndV, ↓pOrV, ↓pNotV, ↓pIf, ↓pNext, ↓pSeq, ↓pBreak, ↓pCont, ↓pDrop, ↓pRet, ↓pRetN, ↓pIfS, ↓pgNil, ↓pgCons, ↓pgTup, ↓pAsg, ↓pRaise, ↓pCall, ↓pIter, ↓pFor, ↓pLc, ↓pYes, ↓pkOf, ↓pIxK, ↓pTabG, ↓pLenK, ↓pChain, ↓pStore, ↓pAppend, ↓pPop, ↓poLst, ↓poDct, ↓pNewW, ↓pRng1, ↓pRng2, ↓pTry, ↓pTryAs, ↓oEq, ↓oNe, ↓oLen, ↓oSum, ↓oAll, ↓oAny, ↓oIsi, start0, List.map_cons, List.map_nil, List.length_cons, List.length_nil, List.cons_append, List.nil_append, List.getElem?_cons_zero, List.getElem?_cons_succ, List.set_cons_zero, List.set_cons_succ, List.replicate, D.bl.injEq, D.int.injEq, D.str.injEq, D.tup.injEq, D.lst.injEq, exists_eq_left', exists_eq_left, Option.some.injEq, Bool.false_eq_true, if_true, if_false, true_and, and_true, false_and, and_false, isi_int, isi_bool, isi_str, isi_tuple, isi_list, isiT_int, isiT_bool, isiT_str, isiT_tuple, isiT_list, Bool.not_true, Bool.not_false, dat_non, dat_bl, dat_int, dat_str, dat_tup, dat_lst, isInt_non, isInt_bl, isInt_int, isInt_str, isInt_tup, isInt_lst, isBool_non, isBool_bl, isBool_int, isBool_str, isBool_tup, isBool_lst, isStr_non, isStr_bl, isStr_int, isStr_str, isStr_tup, isStr_lst, isTup_non, isTup_bl, isTup_int, isTup_str, isTup_tup, isTup_lst, isLst_non, isLst_bl, isLst_int, isLst_str, isLst_tup, isLst_lst, Nat.reduceAdd, Nat.zero_add, sz_0, sz_1, sz_2, sz_3, sz_4, sz_5, sz_6, sz_7, sz_8, sz_9, sz_10, sz_11, sz_12, List.any_cons, List.any_nil, eqD_tup, eqD_str, eqD_int, eqDs_cons, eqDs_nil, eqDs_cn, eqDs_nc, Bool.or_false, Bool.and_true, at0, at1, at2, at3, at4, good_int, good_bl, good_nil, good_nilL, good_non, eqDs_nil_r, eqDs_nil_l, List.isEmpty_nil, List.isEmpty_cons, Bool.and_false, Bool.or_true, Bool.false_or, Bool.true_or, Bool.false_and, Bool.true_and, encB, wipS_mk, List.foldr_cons, List.foldr_nil, con_updW, ↓ixC_ownD, ↓oIx_tup, ↓oIx_lst, ↓oIx_str, ↓lenC_ownL, ↓lenC_ownD, ↓setC_ownD, putC_adr, Own_lst_inj, Con_own_inj, updW_upd, Nat.reduceSub, Nat.sub_self, ↓itD_lst, ↓itD_tup, ↓oInt_i, ↓oCmp_i, ↓oAdd_i, ↓oAdd_s, ↓oAdd_t, ↓oAdd_l, ↓oNeg_i, ↓o1I_i, ↓o2I_i, ↓oSl_t, ↓oSl_l, ↓oList_t, ↓oList_l, ↓oTuple_t, ↓oTuple_l, ↓oIn_t, ↓oIn_l, ↓oIsN_n, ↓ixC_ownLi, ↓setC_ownLi, ixN20, ixN21, ex_int1, ex_int2, ↓pSet_eq, ↓ixK_tup, ↓ixK_lst, ↓ixK_str, ↓ixK_dct, ↓lenK_tup, ↓lenK_lst, ↓lenK_str, ↓pSetO_eq, ↓pPar_eq, ↓kPar_mk, ↓pVarV0, ↓pVarV1, ↓pVarV2, ↓pVarL0, ↓pVarL1, ↓pVarL2, ↓pVarD0, ↓pVarD1, ↓pVarD2, ↓pkVarV0, ↓pkVarV1, ↓pkVarV2, ↓pkVarO0, ↓pkVarO1, ↓pkVarO2, ↓kSetN0, ↓kSetN1, ↓kSetN2, ↓kSetO_N0, ↓kSetO_N1, ↓kSetO_N2, ↓pgNameN0, ↓pgNameN1, ↓pgNameN2, ↓ixS0, ↓ixS1, ↓ixS2, ↓lenS0, ↓lenS1, ↓lenS2, ↓setS0, ↓setS1, ↓setS2, ↓conS0, ↓conS1, ↓conS2, ↓putS0, ↓putS1, ↓putS2]
        refine ⟨gm _ (List.mem_cons_self ..), by decide +kernel, ?_⟩
        refine ite2 (fun c => ?_) (fun c => ?_)
        · subst c
          by_cases h3 : r.length = 3
          · match r, h3 with
            | [t, a, b], _ =>
              simp only [List.length_cons, List.length_nil, Nat.zero_add, Nat.reduceAdd, if_true, at1, Option.some.injEq, exists_eq_left']
              refine ⟨t, rfl, gm t (by simp), _, rfl, ?_⟩
              refine ite2 (fun c2 => ?_) (fun c2 => ?_)
              · rw [show (2 : Int) = ((2 : Nat) : Int) from rfl, cut_from _ _ (by simp)]
                show lcW _ _ _ _ _ [a, b] [] _
                have e3 : ((d + 1 : Nat) : Int) - 1 = (d : Int) := by omega
                refine lcW_map (f := fun v => .bl (isBod d v)) _ _ (fun y hy Q' hQ' => ?_) (by simp [sizeLine]) ?_
                · try simp only [↓pC, ↓pOp, ↓pUn, ↓pSl, ↓pPart, ↓pNil, ↓pCons, ↓pTup, ↓pLst, ↓pCallB, ↓pTest, ↓pNot, ↓pAnd, ↓pOr, ↓pAndV, ↓pOrV, ↓pNotV, ↓pIf, ↓pNext, ↓pSeq, ↓pBreak, ↓pCont, ↓pDrop, ↓pRet, ↓pRetN, ↓pIfS, ↓pgNil, ↓pgCons, ↓pgTup, ↓pAsg, ↓pRaise, ↓pCall, ↓pIter, ↓pFor, ↓pLc, ↓pYes, ↓pkOf, ↓pIxK, ↓pTabG, ↓pLenK, ↓pChain, ↓pStore, ↓pAppend, ↓pPop, ↓poLst, ↓poDct, ↓pNewW, ↓pRng1, ↓pRng2, ↓pTry, ↓pTryAs, ↓oEq, ↓oNe, ↓oLen, ↓oSum, ↓oAll, ↓oAny, ↓oIsi, start0, List.map_cons, List.map_nil, List.length_cons, List.length_nil, List.cons_append, List.nil_append, List.getElem?_cons_zero, List.getElem?_cons_succ, List.set_cons_zero, List.set_cons_succ, List.replicate, D.bl.injEq, D.int.injEq, D.str.injEq, D.tup.injEq, D.lst.injEq, exists_eq_left', exists_eq_left, Option.some.injEq, Bool.false_eq_true, if_true, if_false, true_and, and_true, false_and, and_false, isi_int, isi_bool, isi_str, isi_tuple, isi_list, isiT_int, isiT_bool, isiT_str, isiT_tuple, isiT_list, Bool.not_true, Bool.not_false, dat_non, dat_bl, dat_int, dat_str, dat_tup, dat_lst, isInt_non, isInt_bl, isInt_int, isInt_str, isInt_tup, isInt_lst, isBool_non, isBool_bl, isBool_int, isBool_str, isBool_tup, isBool_lst, isStr_non, isStr_bl, isStr_int, isStr_str, isStr_tup, isStr_lst, isTup_non, isTup_bl, isTup_int, isTup_str, isTup_tup, isTup_lst, isLst_non, isLst_bl, isLst_int, isLst_str, isLst_tup, isLst_lst, Nat.reduceAdd, Nat.zero_add, sz_0, sz_1, sz_2, sz_3, sz_4, sz_5, sz_6, sz_7, sz_8, sz_9, sz_10, sz_11, sz_12, List.any_cons, List.any_nil, eqD_tup, eqD_str, eqD_int, eqDs_cons, eqDs_nil, eqDs_cn, eqDs_nc, Bool.or_false, Bool.and_true, at0, at1, at2, at3, at4, good_int, good_bl, good_nil, good_nilL, good_non, eqDs_nil_r, eqDs_nil_l, List.isEmpty_nil, List.isEmpty_cons, Bool.and_false, Bool.or_true, Bool.false_or, Bool.true_or, Bool.false_and, Bool.true_and, encB, wipS_mk, List.foldr_cons, List.foldr_nil, con_updW, ↓ixC_ownD, ↓oIx_tup, ↓oIx_lst, ↓oIx_str, ↓lenC_ownL, ↓lenC_ownD, ↓setC_ownD, putC_adr, Own_lst_inj, Con_own_inj, updW_upd, Nat.reduceSub, Nat.sub_self, ↓itD_lst, ↓itD_tup, ↓oInt_i, ↓oCmp_i, ↓oAdd_i, ↓oAdd_s, ↓oAdd_t, ↓oAdd_l, ↓oNeg_i, ↓o1I_i, ↓o2I_i, ↓oSl_t, ↓oSl_l, ↓oList_t, ↓oList_l, ↓oTuple_t, ↓oTuple_l, ↓oIn_t, ↓oIn_l, ↓oIsN_n, ↓ixC_ownLi, ↓setC_ownLi, ixN20, ixN21, ex_int1, ex_int2, ↓pSet_eq, ↓ixK_tup, ↓ixK_lst, ↓ixK_str, ↓ixK_dct, ↓lenK_tup, ↓lenK_lst, ↓lenK_str, ↓pSetO_eq, ↓pPar_eq, ↓kPar_mk, ↓pVarV0, ↓pVarV1, ↓pVarV2, ↓pVarL0, ↓pVarL1, ↓pVarL2, ↓pVarD0, ↓pVarD1, ↓pVarD2, ↓pkVarV0, ↓pkVarV1, ↓pkVarV2, ↓pkVarO0, ↓pkVarO1, ↓pkVarO2, ↓kSetN0, ↓kSetN1, ↓kSetN2, ↓kSetO_N0, ↓kSetO_N1, ↓kSetO_N2, ↓pgNameN0, ↓pgNameN1, ↓pgNameN2, ↓ixS0, ↓ixS1, ↓ixS2, ↓lenS0, ↓lenS1, ↓lenS2, ↓setS0, ↓setS1, ↓setS2, ↓conS0, ↓conS1, ↓conS2, ↓putS0, ↓putS1, ↓putS2]
                  refine ⟨y, by rw [e3], gm y (List.mem_cons_of_mem _ (List.mem_cons_of_mem _ hy)), hQ' _ ?_⟩
                  rfl
                · refine ⟨_, [isBod d a, isBod d b], rfl, rfl, hq _ ?_⟩
                  simp [isStm, c2, isBod]
              · exact hq false (by simp [isStm, c2])
          · refine ite2 (fun c3 => absurd c3 (by omega)) (fun _ => ?_)
            refine hq false ?_
            simp only [isStm, if_true]
            split
            · simp at h3
            · rfl
        · simp only [hv, g2, true_and, eqD_tup, eqDs_cons, eqD_str, eqDs_nil_l, Bool.or_false]
          refine ite2 (fun c2 => ?_) (fun c2 => ?_)
          · refine hq true ?_
            simp only [isStm, if_neg c]
            rw [if_pos]
            rw [← c2]
            cases r.isEmpty <;> simp [Bool.beq_comm, eq_comm]
          · refine ⟨x, r, ["wait", "rest", "move", "ahead", "set"], rfl, hv, (by decide +kernel), (fun y hy => ?_), hq _ ?_⟩
            · simp at hy
              rcases hy with rfl | rfl | rfl | rfl | rfl <;> rfl
            · simp only [isStm, if_neg c]
              rw [if_neg]
              intro c3
              apply c2
              rw [← c3]
              cases r.isEmpty <;> simp [Bool.beq_comm, eq_comm]
      · cases hw
abbrev s_is_body : Stmt := topS 14
abbrev N_is_body : List Str := ["value", "deep", "one"]
theorem sc_is_body : FnScope N_is_body ["value", "deep"] (defScope s_is_body) := ⟨rfl, rfl, rfl, by decide +kernel, rfl, by decide +kernel, by decide +kernel⟩
theorem ok_is_body {d : Nat} {k : Nat}  (T : TopD K mg "is_body" ["value", "deep"] s_is_body) (m_all : mg "all" = none) (c_is_statement : CallF P w K mg base "is_statement" 2 k (φ_is_statement d)) (m_len : mg "len" = none) (m_isinstance : mg "isinstance" = none) (m_tuple : mg "tuple" = none)  :
    CallF P w K mg base "is_body" 2 (k + 1) (φ_is_body d) := by
  refine call_of (N := N_is_body) (k := k) T sc_is_body fun f cdv A outer s H E hr => ⟨_, (pmss_one (pms_ret (pm_and (pm_callB cd_isi (by rfl) m_isinstance (by decide +kernel) (pma_cons (pm_var (pv 0)) (pma_cons (pm_ty (by rfl) m_tuple boot_tuple) pma_nil))) (pm_and (pm_cmp od_le (pm_lenK (by rfl) m_len (pk_var (pv 0))) pm_int (nomark _)) (pm_one (pm_callB (cd_all rfl) (by rfl) m_all (by decide +kernel) (pma_cons (pm_lc (own := [("one", 2)]) rfl sc_is_body.nd (pmi_seq (pm_var (pv 0))) (blkOk_by (own := [("one", 2)]) (N := N_is_body) (sc := defScope s_is_body) (by decide +kernel)) (fun _ _ _ _ _ => (pmg_of (vs := [2]) (pg_name (i := 2) sc_is_body.nd rfl (.inl rfl)))) (fun _ _ _ _ _ => pmts_nil) (fun _ _ _ _ _ => (pm_callF c_is_statement hr (by rfl) (pma_cons (pm_var (pv 2)) (pma_cons (pm_var (pv 1)) pma_nil))))) pma_nil))))))), ?_⟩
  rintro ds Wo Q E' - ⟨v, rfl, hv, q⟩
  have hq : ∀ b, isBod d v = b → Q (.bl b) Wo := fun b h => h ▸ q
  try simp only [↓pC, ↓pOp, ↓pUn, ↓pSl, ↓pPart, ↓pNil, ↓pCons, ↓pTup, ↓pLst, ↓pCallB, ↓pTest, ↓pNot, ↓pAnd, ↓pOr, ↓pAndV, ↓pOrV, ↓pNotV, ↓pIf, ↓pNext, ↓pSeq, ↓pBreak, ↓pCont, ↓pDrop, ↓pRet, ↓pRetN, ↓pIfS, ↓pgNil, ↓pgCons, ↓pgTup, ↓pAsg, ↓pRaise, ↓pCall, ↓pIter, ↓pFor, ↓pLc, ↓pYes, ↓pkOf, ↓pIxK, ↓pTabG, ↓pLenK, ↓pChain, ↓pStore, ↓pAppend, ↓pPop, ↓poLst, ↓poDct, ↓pNewW, ↓pRng1, ↓pRng2, ↓pTry, ↓pTryAs, ↓oEq, ↓oNe, ↓oLen, ↓oSum, ↓oAll, ↓oAny, ↓oIsi, start0, List.map_cons, List.map_nil, List.length_cons, List.length_nil, List.cons_append, List.nil_append, List.getElem?_cons_zero, List.getElem?_cons_succ, List.set_cons_zero, List.set_cons_succ, List.replicate, D.bl.injEq, D.int.injEq, D.str.injEq, D.tup.injEq, D.lst.injEq, exists_eq_left', exists_eq_left, Option.some.injEq, Bool.false_eq_true, if_true, if_false, true_and, and_true, false_and, and_false, isi_int, isi_bool, isi_str, isi_tuple, isi_list, isiT_int, isiT_bool, isiT_str, isiT_tuple, isiT_list, Bool.not_true, Bool.not_false, dat_non, dat_bl, dat_int, dat_str, dat_tup, dat_lst, isInt_non, isInt_bl, isInt_int, isInt_str, isInt_tup, isInt_lst, isBool_non, isBool_bl, isBool_int, isBool_str, isBool_tup, isBool_lst, isStr_non, isStr_bl, isStr_int, isStr_str, isStr_tup, isStr_lst, isTup_non, isTup_bl, isTup_int, isTup_str, isTup_tup, isTup_lst, isLst_non, isLst_bl, isLst_int, isLst_str, isLst_tup, isLst_lst, Nat.reduceAdd, Nat.zero_add, sz_0, sz_1, sz_2, sz_3, sz_4, sz_5, sz_6, sz_7, sz_8, sz_9, sz_10, sz_11, sz_12, List.any_cons, List.any_nil, eqD_tup, eqD_str, eqD_int, eqDs_cons, eqDs_nil, eqDs_cn, eqDs_nc, Bool.or_false, Bool.and_true, at0, at1, at2, at3, at4, good_int, good_bl, good_nil, good_nilL, good_non, eqDs_nil_r, eqDs_nil_l, List.isEmpty_nil, List.isEmpty_cons, Bool.and_false, Bool.or_true, Bool.false_or, Bool.true_or, Bool.false_and, Bool.true_and, encB, wipS_mk, List.foldr_cons, List.foldr_nil, con_updW, ↓ixC_ownD, ↓oIx_tup, ↓oIx_lst, ↓oIx_str, ↓lenC_ownL, ↓lenC_ownD, ↓setC_ownD, putC_adr, Own_lst_inj, Con_own_inj, updW_upd, Nat.reduceSub, Nat.sub_self, ↓itD_lst, ↓itD_tup, ↓oInt_i, ↓oCmp_i, ↓oAdd_i, ↓oAdd_s, ↓oAdd_t, ↓oAdd_l, ↓oNeg_i, ↓o1I_i, ↓o2I_i, ↓oSl_t, ↓oSl_l, ↓oList_t, ↓oList_l, ↓oTuple_t, ↓oTuple_l, ↓oIn_t, ↓oIn_l, ↓oIsN_n, ↓ixC_ownLi, ↓setC_ownLi, ixN20, ixN21, ex_int1, ex_int2, ↓pSet_eq, ↓ixK_tup, ↓ixK_lst, ↓ixK_str, ↓ixK_dct, ↓lenK_tup, ↓lenK_lst, ↓lenK_str, ↓pSetO_eq, ↓pPar_eq, ↓kPar_mk, ↓pVarV0, ↓pVarV1, ↓pVarV2, ↓pVarL0, ↓pVarL1, ↓pVarL2, ↓pVarD0, ↓pVarD1, ↓pVarD2, ↓pkVarV0, ↓pkVarV1, ↓pkVarV2, ↓pkVarO0, ↓pkVarO1, ↓pkVarO2, ↓kSetN0, ↓kSetN1, ↓kSetN2, ↓kSetO_N0, ↓kSetO_N1, ↓kSetO_N2, ↓pgNameN0, ↓pgNameN1, ↓pgNameN2, ↓ixS0, ↓ixS1, ↓ixS2, ↓lenS0, ↓lenS1, ↓lenS2, ↓setS0, ↓setS1, ↓setS2, ↓conS0, ↓conS1, ↓conS2, ↓putS0, ↓putS1, ↓putS2]
  cases v with
  | tup xs =>
    try simp only [↓pC, ↓pOp, ↓pUn, ↓pSl, ↓pPart, ↓pNil, ↓pCons, ↓pTup, ↓pLst, ↓pCallB, ↓pTest, ↓pNot, ↓pAnd, ↓pOr, ↓pAndV, ↓pOrV, ↓pNotV, ↓pIf, ↓pNext, ↓pSeq, ↓pBreak, ↓pCont, ↓pDrop, ↓pRet, ↓pRetN, ↓pIfS, ↓pgNil, ↓pgCons, ↓pgTup, ↓pAsg, ↓pRaise, ↓pCall, ↓pIter, ↓pFor, ↓pLc, ↓pYes, ↓pkOf, ↓pIxK, ↓pTabG, ↓pLenK, ↓pChain, ↓pStore, ↓pAppend, ↓pPop, ↓poLst, ↓poDct, ↓pNewW, ↓pRng1, ↓pRng2, ↓pTry, ↓pTryAs, ↓oEq, ↓oNe, ↓oLen, ↓oSum, ↓oAll, ↓oAny, ↓oIsi, start0, List.map_cons, List.map_nil, List.length_cons, List.length_nil, List.cons_append, List.nil_append, List.getElem?_cons_zero, List.getElem?_cons_succ, List.set_cons_zero, List.set_cons_succ, List.replicate, D.bl.injEq, D.int.injEq, D.str.injEq, D.tup.injEq, D.lst.injEq, exists_eq_left', exists_eq_left, Option.some.injEq, Bool.false_eq_true, if_true, if_false, true_and, and_true, false_and, and_false, isi_int, isi_bool, isi_str, isi_tuple, isi_list, isiT_int, isiT_bool, isiT_str, isiT_tuple, isiT_list, Bool.not_true, Bool.not_false, dat_non, dat_bl, dat_int, dat_str, dat_tup, dat_lst, isInt_non, isInt_bl, isInt_int, isInt_str, isInt_tup, isInt_lst, isBool_non, isBool_bl, isBool_int, isBool_str, isBool_tup, isBool_lst, isStr_non, isStr_bl, isStr_int, isStr_str, isStr_tup, isStr_lst, isTup_non, isTup_bl, isTup_int, isTup_str, isTup_tup, isTup_lst, isLst_non, isLst_bl, isLst_int, isLst_str, isLst_tup, isLst_lst, Nat.reduceAdd, Nat.zero_add, sz_0, sz_1, sz_2, sz_3, sz_4, sz_5, sz_6, sz_7, sz_8, sz_9, sz_10, sz_11, sz_12, List.any_cons, List.any_nil, eqD_tup, eqD_str, eqD_int, eqDs_cons, eqDs_nil, eqDs_cn, eqDs_nc, Bool.or_false, Bool.and_true, at0, at1, at2, at3, at4, good_int, good_bl, good_nil, good_nilL, good_non, eqDs_nil_r, eqDs_nil_l, List.isEmpty_nil, List.isEmpty_cons, Bool.and_false, Bool.or_true, Bool.false_or, Bool.true_or, Bool.false_and, Bool.true_and, encB, wipS_mk, List.foldr_cons, List.foldr_nil, con_updW, ↓ixC_ownD, ↓oIx_tup, ↓oIx_lst, ↓oIx_str, ↓lenC_ownL, ↓lenC_ownD, ↓setC_ownD, putC_adr, Own_lst_inj, Con_own_inj, updW_upd, Nat.reduceSub, Nat.sub_self, ↓itD_lst, ↓itD_tup, ↓oInt_i, ↓oCmp_i, ↓oAdd_i, ↓oAdd_s, ↓oAdd_t, ↓oAdd_l, ↓oNeg_i, ↓o1I_i, ↓o2I_i, ↓oSl_t, ↓oSl_l, ↓oList_t, ↓oList_l, ↓oTuple_t, ↓oTuple_l, ↓oIn_t, ↓oIn_l, ↓oIsN_n, ↓ixC_ownLi, ↓setC_ownLi, ixN20, ixN21, ex_int1, ex_int2, ↓pSet_eq, ↓ixK_tup, ↓ixK_lst, ↓ixK_str, ↓ixK_dct, ↓lenK_tup, ↓lenK_lst, ↓lenK_str, ↓pSetO_eq, ↓pPar_eq, ↓kPar_mk, ↓pVarV0, ↓pVarV1, ↓pVarV2, ↓pVarL0, ↓pVarL1, ↓pVarL2, ↓pVarD0, ↓pVarD1, ↓pVarD2, ↓pkVarV0, ↓pkVarV1, ↓pkVarV2, ↓pkVarO0, ↓pkVarO1, ↓pkVarO2, ↓kSetN0, ↓kSetN1, ↓kSetN2, ↓kSetO_N0, ↓kSetO_N1, ↓kSetO_N2, ↓pgNameN0, ↓pgNameN1, ↓pgNameN2, ↓ixS0, ↓ixS1, ↓ixS2, ↓lenS0, ↓lenS1, ↓lenS2, ↓setS0, ↓setS1, ↓setS2, ↓conS0, ↓conS1, ↓conS2, ↓putS0, ↓putS1, ↓putS2]
    refine ite2 (fun c => ?_) (fun c => ?_)
    · have c : xs.length ≤ 8 := by have := of_decide_eq_true c; omega
      refine lcW_map (f := fun v => .bl (isStm d v)) _ _ (fun y hy Q' hQ' => ?_) (by simp [sizeLine]; omega) ?_
      · try simp only [↓pC, ↓pOp, ↓pUn, ↓pSl, ↓pPart, ↓pNil, ↓pCons, ↓pTup, ↓pLst, ↓pCallB, ↓pTest, ↓pNot, ↓pAnd, ↓pOr, ↓pAndV, ↓pOrV, ↓pNotV, ↓pIf, ↓pNext, ↓pSeq, ↓pBreak, ↓pCont, ↓pDrop, ↓pRet, ↓pRetN, ↓pIfS, ↓pgNil, ↓pgCons, ↓pgTup, ↓pAsg, ↓pRaise, ↓pCall, ↓pIter, ↓pFor, ↓pLc, ↓pYes, ↓pkOf, ↓pIxK, ↓pTabG, ↓pLenK, ↓pChain, ↓pStore, ↓pAppend, ↓pPop, ↓poLst, ↓poDct, ↓pNewW, ↓pRng1, ↓pRng2, ↓pTry, ↓pTryAs, ↓oEq, ↓oNe, ↓oLen, ↓oSum, ↓oAll, ↓oAny, ↓oIsi, start0, List.map_cons, List.map_nil, List.length_cons, List.length_nil, List.cons_append, List.nil_append, List.getElem?_cons_zero, List.getElem?_cons_succ, List.set_cons_zero, List.set_cons_succ, List.replicate, D.bl.injEq, D.int.injEq, D.str.injEq, D.tup.injEq, D.lst.injEq, exists_eq_left', exists_eq_left, Option.some.injEq, Bool.false_eq_true, if_true, if_false, true_and, and_true, false_and, and_false, isi_int, isi_bool, isi_str, isi_tuple, isi_list, isiT_int, isiT_bool, isiT_str, isiT_tuple, isiT_list, Bool.not_true, Bool.not_false, dat_non, dat_bl, dat_int, dat_str, dat_tup, dat_lst, isInt_non, isInt_bl, isInt_int, isInt_str, isInt_tup, isInt_lst, isBool_non, isBool_bl, isBool_int, isBool_str, isBool_tup, isBool_lst, isStr_non, isStr_bl, isStr_int, isStr_str, isStr_tup, isStr_lst, isTup_non, isTup_bl, isTup_int, isTup_str, isTup_tup, isTup_lst, isLst_non, isLst_bl, isLst_int, isLst_str, isLst_tup, isLst_lst, Nat.reduceAdd, Nat.zero_add, sz_0, sz_1, sz_2, sz_3, sz_4, sz_5, sz_6, sz_7, sz_8, sz_9, sz_10, sz_11, sz_12, List.any_cons, List.any_nil, eqD_tup, eqD_str, eqD_int, eqDs_cons, eqDs_nil, eqDs_cn, eqDs_nc, Bool.or_false, Bool.and_true, at0, at1, at2, at3, at4, good_int, good_bl, good_nil, good_nilL, good_non, eqDs_nil_r, eqDs_nil_l, List.isEmpty_nil, List.isEmpty_cons, Bool.and_false, Bool.or_true, Bool.false_or, Bool.true_or, Bool.false_and, Bool.true_and, encB, wipS_mk, List.foldr_cons, List.foldr_nil, con_updW, ↓ixC_ownD, ↓oIx_tup, ↓oIx_lst, ↓oIx_str, ↓lenC_ownL, ↓lenC_ownD, ↓setC_ownD, putC_adr, Own_lst_inj, Con_own_inj, updW_upd, Nat.reduceSub, Nat.sub_self, ↓itD_lst, ↓itD_tup, ↓oInt_i, ↓oCmp_i, ↓oAdd_i, ↓oAdd_s, ↓oAdd_t, ↓oAdd_l, ↓oNeg_i, ↓o1I_i, ↓o2I_i, ↓oSl_t, ↓oSl_l, ↓oList_t, ↓oList_l, ↓oTuple_t, ↓oTuple_l, ↓oIn_t, ↓oIn_l, ↓oIsN_n, ↓ixC_ownLi, ↓setC_ownLi, ixN20, ixN21, ex_int1, ex_int2, ↓pSet_eq, ↓ixK_tup, ↓ixK_lst, ↓ixK_str, ↓ixK_dct, ↓lenK_tup, ↓lenK_lst, ↓lenK_str, ↓pSetO_eq, ↓pPar_eq, ↓kPar_mk, ↓pVarV0, ↓pVarV1, ↓pVarV2, ↓pVarL0, ↓pVarL1, ↓pVarL2, ↓pVarD0, ↓pVarD1, ↓pVarD2, ↓pkVarV0, ↓pkVarV1, ↓pkVarV2, ↓pkVarO0, ↓pkVarO1, ↓pkVarO2, ↓kSetN0, ↓kSetN1, ↓kSetN2, ↓kSetO_N0, ↓kSetO_N1, ↓kSetO_N2, ↓pgNameN0, ↓pgNameN1, ↓pgNameN2, ↓ixS0, ↓ixS1, ↓ixS2, ↓lenS0, ↓lenS1, ↓lenS2, ↓setS0, ↓setS1, ↓setS2, ↓conS0, ↓conS1, ↓conS2, ↓putS0, ↓putS1, ↓putS2]
        refine ⟨y, rfl, good_tup hv y hy, hQ' _ ?_⟩
        rfl
      · refine ⟨_, xs.map (isStm d), rfl, ?_, hq _ ?_⟩
        · rw [← bls_map (xs.map (isStm d)), List.nil_append, List.map_map]; rfl
        · simp [isBod, bodW, c]
    · have c : ¬ xs.length ≤ 8 := by simp at c; omega
      exact hq false (by simp [isBod, bodW, c])
  | dct _ _ => simp [D.good, D.plain] at hv
  | adr _ => simp [D.good, D.plain] at hv
  | ty _ => simp [D.good, D.plain] at hv
  | _ =>
    try simp only [↓pC, ↓pOp, ↓pUn, ↓pSl, ↓pPart, ↓pNil, ↓pCons, ↓pTup, ↓pLst, ↓pCallB, ↓pTest, ↓pNot, ↓pAnd, ↓pOr, ↓pAndV, ↓pOrV, ↓pNotV, ↓pIf, ↓pNext, ↓pSeq, ↓pBreak, ↓pCont, ↓pDrop, ↓pRet, ↓pRetN, ↓pIfS, ↓pgNil, ↓pgCons, ↓pgTup, ↓pAsg, ↓pRaise, ↓pCall, ↓pIter, ↓pFor, ↓pLc, ↓pYes, ↓pkOf, ↓pIxK, ↓pTabG, ↓pLenK, ↓pChain, ↓pStore, ↓pAppend, ↓pPop, ↓poLst, ↓poDct, ↓pNewW, ↓pRng1, ↓pRng2, ↓pTry, ↓pTryAs, ↓oEq, ↓oNe, ↓oLen, ↓oSum, ↓oAll, ↓oAny, ↓oIsi, start0, List.map_cons, List.map_nil, List.length_cons, List.length_nil, List.cons_append, List.nil_append, List.getElem?_cons_zero, List.getElem?_cons_succ, List.set_cons_zero, List.set_cons_succ, List.replicate, D.bl.injEq, D.int.injEq, D.str.injEq, D.tup.injEq, D.lst.injEq, exists_eq_left', exists_eq_left, Option.some.injEq, Bool.false_eq_true, if_true, if_false, true_and, and_true, false_and, and_false, isi_int, isi_bool, isi_str, isi_tuple, isi_list, isiT_int, isiT_bool, isiT_str, isiT_tuple, isiT_list, Bool.not_true, Bool.not_false, dat_non, dat_bl, dat_int, dat_str, dat_tup, dat_lst, isInt_non, isInt_bl, isInt_int, isInt_str, isInt_tup, isInt_lst, isBool_non, isBool_bl, isBool_int, isBool_str, isBool_tup, isBool_lst, isStr_non, isStr_bl, isStr_int, isStr_str, isStr_tup, isStr_lst, isTup_non, isTup_bl, isTup_int, isTup_str, isTup_tup, isTup_lst, isLst_non, isLst_bl, isLst_int, isLst_str, isLst_tup, isLst_lst, Nat.reduceAdd, Nat.zero_add, sz_0, sz_1, sz_2, sz_3, sz_4, sz_5, sz_6, sz_7, sz_8, sz_9, sz_10, sz_11, sz_12, List.any_cons, List.any_nil, eqD_tup, eqD_str, eqD_int, eqDs_cons, eqDs_nil, eqDs_cn, eqDs_nc, Bool.or_false, Bool.and_true, at0, at1, at2, at3, at4, good_int, good_bl, good_nil, good_nilL, good_non, eqDs_nil_r, eqDs_nil_l, List.isEmpty_nil, List.isEmpty_cons, Bool.and_false, Bool.or_true, Bool.false_or, Bool.true_or, Bool.false_and, Bool.true_and, encB, wipS_mk, List.foldr_cons, List.foldr_nil, con_updW, ↓ixC_ownD, ↓oIx_tup, ↓oIx_lst, ↓oIx_str, ↓lenC_ownL, ↓lenC_ownD, ↓setC_ownD, putC_adr, Own_lst_inj, Con_own_inj, updW_upd, Nat.reduceSub, Nat.sub_self, ↓itD_lst, ↓itD_tup, ↓oInt_i, ↓oCmp_i, ↓oAdd_i, ↓oAdd_s, ↓oAdd_t, ↓oAdd_l, ↓oNeg_i, ↓o1I_i, ↓o2I_i, ↓oSl_t, ↓oSl_l, ↓oList_t, ↓oList_l, ↓oTuple_t, ↓oTuple_l, ↓oIn_t, ↓oIn_l, ↓oIsN_n, ↓ixC_ownLi, ↓setC_ownLi, ixN20, ixN21, ex_int1, ex_int2, ↓pSet_eq, ↓ixK_tup, ↓ixK_lst, ↓ixK_str, ↓ixK_dct, ↓lenK_tup, ↓lenK_lst, ↓lenK_str, ↓pSetO_eq, ↓pPar_eq, ↓kPar_mk, ↓pVarV0, ↓pVarV1, ↓pVarV2, ↓pVarL0, ↓pVarL1, ↓pVarL2, ↓pVarD0, ↓pVarD1, ↓pVarD2, ↓pkVarV0, ↓pkVarV1, ↓pkVarV2, ↓pkVarO0, ↓pkVarO1, ↓pkVarO2, ↓kSetN0, ↓kSetN1, ↓kSetN2, ↓kSetO_N0, ↓kSetO_N1, ↓kSetO_N2, ↓pgNameN0, ↓pgNameN1, ↓pgNameN2, ↓ixS0, ↓ixS1, ↓ixS2, ↓lenS0, ↓lenS1, ↓lenS2, ↓setS0, ↓setS1, ↓setS2, ↓conS0, ↓conS1, ↓conS2, ↓putS0, ↓putS1, ↓putS2]
    exact q
abbrev s_bodies_of : Stmt := topS 15
abbrev N_bodies_of : List Str := ["statement"]
theorem sc_bodies_of : FnScope N_bodies_of ["statement"] (defScope s_bodies_of) := ⟨rfl, rfl, rfl, by decide +kernel, rfl, by decide +kernel, by decide +kernel⟩
theorem ok_bodies_of  {k : Nat}  (T : TopD K mg "bodies_of" ["statement"] s_bodies_of) (m_list : mg "list" = none)  :
    CallF P w K mg base "bodies_of" 1 (k + 1) (φ_bodies_of) := by
  refine call_of (N := N_bodies_of) (k := k) T sc_bodies_of fun f cdv A outer s H E hr => ⟨_, (pmss_one (pms_ret (pm_ifExp (pmt_cmp (od_eq (Room.hu64 hr)) (pm_ixK (Room.hu1 hr) (pk_var (pv 0)) pm_int (fun _ _ => rfl)) pm_str (nomark _)) (pm_callTy cd_list (by rfl) m_list boot_list (pma_cons (pm_slice sld (pm_var (pv 0)) (.inr ⟨_, _, rfl, rfl, pm_int⟩) (.inl ⟨rfl, rfl⟩)) pma_nil)) (pm_lst pma_nil)))), ?_⟩
  rintro ds Wo Q E' - ⟨s, rfl, q⟩
  try simp only [↓pC, ↓pOp, ↓pUn, ↓pSl, ↓pPart, ↓pNil, ↓pCons, ↓pTup, ↓pLst, ↓pCallB, ↓pTest, ↓pNot, ↓pAnd, ↓pOr, ↓pAndV, ↓pOrV, ↓pNotV, ↓pIf, ↓pNext, ↓pSeq, ↓pBreak, ↓pCont, ↓pDrop, ↓pRet, ↓pRetN, ↓pIfS, ↓pgNil, ↓pgCons, ↓pgTup, ↓pAsg, ↓pRaise, ↓pCall, ↓pIter, ↓pFor, ↓pLc, ↓pYes, ↓pkOf, ↓pIxK, ↓pTabG, ↓pLenK, ↓pChain, ↓pStore, ↓pAppend, ↓pPop, ↓poLst, ↓poDct, ↓pNewW, ↓pRng1, ↓pRng2, ↓pTry, ↓pTryAs, ↓oEq, ↓oNe, ↓oLen, ↓oSum, ↓oAll, ↓oAny, ↓oIsi, start0, List.map_cons, List.map_nil, List.length_cons, List.length_nil, List.cons_append, List.nil_append, List.getElem?_cons_zero, List.getElem?_cons_succ, List.set_cons_zero, List.set_cons_succ, List.replicate, D.bl.injEq, D.int.injEq, D.str.injEq, D.tup.injEq, D.lst.injEq, exists_eq_left', exists_eq_left, Option.some.injEq, Bool.false_eq_true, if_true, if_false, true_and, and_true, false_and, and_false, isi_int, isi_bool, isi_str, isi_tuple, isi_list, isiT_int, isiT_bool, isiT_str, isiT_tuple, isiT_list, Bool.not_true, Bool.not_false, dat_non, dat_bl, dat_int, dat_str, dat_tup, dat_lst, isInt_non, isInt_bl, isInt_int, isInt_str, isInt_tup, isInt_lst, isBool_non, isBool_bl, isBool_int, isBool_str, isBool_tup, isBool_lst, isStr_non, isStr_bl, isStr_int, isStr_str, isStr_tup, isStr_lst, isTup_non, isTup_bl, isTup_int, isTup_str, isTup_tup, isTup_lst, isLst_non, isLst_bl, isLst_int, isLst_str, isLst_tup, isLst_lst, Nat.reduceAdd, Nat.zero_add, sz_0, sz_1, sz_2, sz_3, sz_4, sz_5, sz_6, sz_7, sz_8, sz_9, sz_10, sz_11, sz_12, List.any_cons, List.any_nil, eqD_tup, eqD_str, eqD_int, eqDs_cons, eqDs_nil, eqDs_cn, eqDs_nc, Bool.or_false, Bool.and_true, at0, at1, at2, at3, at4, good_int, good_bl, good_nil, good_nilL, good_non, eqDs_nil_r, eqDs_nil_l, List.isEmpty_nil, List.isEmpty_cons, Bool.and_false, Bool.or_true, Bool.false_or, Bool.true_or, Bool.false_and, Bool.true_and, encB, wipS_mk, List.foldr_cons, List.foldr_nil, con_updW, ↓ixC_ownD, ↓oIx_tup, ↓oIx_lst, ↓oIx_str, ↓lenC_ownL, ↓lenC_ownD, ↓setC_ownD, putC_adr, Own_lst_inj, Con_own_inj, updW_upd, Nat.reduceSub, Nat.sub_self, ↓itD_lst, ↓itD_tup, ↓oInt_i, ↓oCmp_i, ↓oAdd_i, ↓oAdd_s, ↓oAdd_t, ↓oAdd_l, ↓oNeg_i, ↓o1I_i, ↓o2I_i, ↓oSl_t, ↓oSl_l, ↓oList_t, ↓oList_l, ↓oTuple_t, ↓oTuple_l, ↓oIn_t, ↓oIn_l, ↓oIsN_n, ↓ixC_ownLi, ↓setC_ownLi, ixN20, ixN21, ex_int1, ex_int2, ↓pSet_eq, ↓ixK_tup, ↓ixK_lst, ↓ixK_str, ↓ixK_dct, ↓lenK_tup, ↓lenK_lst, ↓lenK_str, ↓pSetO_eq, ↓pPar_eq, ↓kPar_mk, ↓pVarV0, ↓pVarL0, ↓pVarD0, ↓pkVarV0, ↓pkVarO0, ↓kSetN0, ↓kSetO_N0, ↓pgNameN0, ↓ixS0, ↓lenS0, ↓setS0, ↓conS0, ↓putS0]
  have g1 : D.good (.str "if") = true := by decide +kernel
  cases s with
  | ite t a b =>
    simp only [encS]
    try simp only [↓pC, ↓pOp, ↓pUn, ↓pSl, ↓pPart, ↓pNil, ↓pCons, ↓pTup, ↓pLst, ↓pCallB, ↓pTest, ↓pNot, ↓pAnd, ↓pOr, ↓pAndV, ↓pOrV, ↓pNotV, ↓pIf, ↓pNext, ↓pSeq, ↓pBreak, ↓pCont, ↓pDrop, ↓pRet, ↓pRetN, ↓pIfS, ↓pgNil, ↓pgCons, ↓pgTup, ↓pAsg, ↓pRaise, ↓pCall, ↓pIter, ↓pFor, ↓pLc, ↓pYes, ↓pkOf, ↓pIxK, ↓pTabG, ↓pLenK, ↓pChain, ↓pStore, ↓pAppend, ↓pPop, ↓poLst, ↓poDct, ↓pNewW, ↓pRng1, ↓pRng2, ↓pTry, ↓pTryAs, ↓oEq, ↓oNe, ↓oLen, ↓oSum, ↓oAll, ↓oAny, ↓oIsi, start0, List.map_cons, List.map_nil, List.length_cons, List.length_nil, List.cons_append, List.nil_append, List.getElem?_cons_zero, List.getElem?_cons_succ, List.set_cons_zero, List.set_cons_succ, List.replicate, D.bl.injEq, D.int.injEq, D.str.injEq, D.tup.injEq, D.lst.injEq, exists_eq_left', exists_eq_left, Option.some.injEq, Bool.false_eq_true, if_true, if_false, true_and, and_true, false_and, and_false, isi_int, isi_bool, isi_str, isi_tuple, isi_list, isiT_int, isiT_bool, isiT_str, isiT_tuple, isiT_list, Bool.not_true, Bool.not_false, dat_non, dat_bl, dat_int, dat_str, dat_tup, dat_lst, isInt_non, isInt_bl, isInt_int, isInt_str, isInt_tup, isInt_lst, isBool_non, isBool_bl, isBool_int, isBool_str, isBool_tup, isBool_lst, isStr_non, isStr_bl, isStr_int, isStr_str, isStr_tup, isStr_lst, isTup_non, isTup_bl, isTup_int, isTup_str, isTup_tup, isTup_lst, isLst_non, isLst_bl, isLst_int, isLst_str, isLst_tup, isLst_lst, Nat.reduceAdd, Nat.zero_add, sz_0, sz_1, sz_2, sz_3, sz_4, sz_5, sz_6, sz_7, sz_8, sz_9, sz_10, sz_11, sz_12, List.any_cons, List.any_nil, eqD_tup, eqD_str, eqD_int, eqDs_cons, eqDs_nil, eqDs_cn, eqDs_nc, Bool.or_false, Bool.and_true, at0, at1, at2, at3, at4, good_int, good_bl, good_nil, good_nilL, good_non, eqDs_nil_r, eqDs_nil_l, List.isEmpty_nil, List.isEmpty_cons, Bool.and_false, Bool.or_true, Bool.false_or, Bool.true_or, Bool.false_and, Bool.true_and, encB, wipS_mk, List.foldr_cons, List.foldr_nil, con_updW, ↓ixC_ownD, ↓oIx_tup, ↓oIx_lst, ↓oIx_str, ↓lenC_ownL, ↓lenC_ownD, ↓setC_ownD, putC_adr, Own_lst_inj, Con_own_inj, updW_upd, Nat.reduceSub, Nat.sub_self, ↓itD_lst, ↓itD_tup, ↓oInt_i, ↓oCmp_i, ↓oAdd_i, ↓oAdd_s, ↓oAdd_t, ↓oAdd_l, ↓oNeg_i, ↓o1I_i, ↓o2I_i, ↓oSl_t, ↓oSl_l, ↓oList_t, ↓oList_l, ↓oTuple_t, ↓oTuple_l, ↓oIn_t, ↓oIn_l, ↓oIsN_n, ↓ixC_ownLi, ↓setC_ownLi, ixN20, ixN21, ex_int1, ex_int2, ↓pSet_eq, ↓ixK_tup, ↓ixK_lst, ↓ixK_str, ↓ixK_dct, ↓lenK_tup, ↓lenK_lst, ↓lenK_str, ↓pSetO_eq, ↓pPar_eq, ↓kPar_mk, ↓pVarV0, ↓pVarL0, ↓pVarD0, ↓pkVarV0, ↓pkVarO0, ↓kSetN0, ↓kSetO_N0, ↓pgNameN0, ↓ixS0, ↓lenS0, ↓setS0, ↓conS0, ↓putS0]
    simp only [g1]
    try simp only [↓pC, ↓pOp, ↓pUn, ↓pSl, ↓pPart, ↓pNil, ↓pCons, ↓pTup, ↓pLst, ↓pCallB, ↓pTest, ↓pNot, ↓pAnd, ↓pOr, ↓pAndV, ↓pOrV, ↓pNotV, ↓pIf, ↓pNext, ↓pSeq, ↓pBreak, ↓pCont, ↓pDrop, ↓pRet, ↓pRetN, ↓pIfS, ↓pgNil, ↓pgCons, ↓pgTup, ↓pAsg, ↓pRaise, ↓pCall, ↓pIter, ↓pFor, ↓pLc, ↓pYes, ↓pkOf, ↓pIxK, ↓pTabG, ↓pLenK, ↓pChain, ↓pStore, ↓pAppend, ↓pPop, ↓poLst, ↓poDct, ↓pNewW, ↓pRng1, ↓pRng2, ↓pTry, ↓pTryAs, ↓oEq, ↓oNe, ↓oLen, ↓oSum, ↓oAll, ↓oAny, ↓oIsi, start0, List.map_cons, List.map_nil, List.length_cons, List.length_nil, List.cons_append, List.nil_append, List.getElem?_cons_zero, List.getElem?_cons_succ, List.set_cons_zero, List.set_cons_succ, List.replicate, D.bl.injEq, D.int.injEq, D.str.injEq, D.tup.injEq, D.lst.injEq, exists_eq_left', exists_eq_left, Option.some.injEq, Bool.false_eq_true, if_true, if_false, true_and, and_true, false_and, and_false, isi_int, isi_bool, isi_str, isi_tuple, isi_list, isiT_int, isiT_bool, isiT_str, isiT_tuple, isiT_list, Bool.not_true, Bool.not_false, dat_non, dat_bl, dat_int, dat_str, dat_tup, dat_lst, isInt_non, isInt_bl, isInt_int, isInt_str, isInt_tup, isInt_lst, isBool_non, isBool_bl, isBool_int, isBool_str, isBool_tup, isBool_lst, isStr_non, isStr_bl, isStr_int, isStr_str, isStr_tup, isStr_lst, isTup_non, isTup_bl, isTup_int, isTup_str, isTup_tup, isTup_lst, isLst_non, isLst_bl, isLst_int, isLst_str, isLst_tup, isLst_lst, Nat.reduceAdd, Nat.zero_add, sz_0, sz_1, sz_2, sz_3, sz_4, sz_5, sz_6, sz_7, sz_8, sz_9, sz_10, sz_11, sz_12, List.any_cons, List.any_nil, eqD_tup, eqD_str, eqD_int, eqDs_cons, eqDs_nil, eqDs_cn, eqDs_nc, Bool.or_false, Bool.and_true, at0, at1, at2, at3, at4, good_int, good_bl, good_nil, good_nilL, good_non, eqDs_nil_r, eqDs_nil_l, List.isEmpty_nil, List.isEmpty_cons, Bool.and_false, Bool.or_true, Bool.false_or, Bool.true_or, Bool.false_and, Bool.true_and, encB, wipS_mk, List.foldr_cons, List.foldr_nil, con_updW, ↓ixC_ownD, ↓oIx_tup, ↓oIx_lst, ↓oIx_str, ↓lenC_ownL, ↓lenC_ownD, ↓setC_ownD, putC_adr, Own_lst_inj, Con_own_inj, updW_upd, Nat.reduceSub, Nat.sub_self, ↓itD_lst, ↓itD_tup, ↓oInt_i, ↓oCmp_i, ↓oAdd_i, ↓oAdd_s, ↓oAdd_t, ↓oAdd_l, ↓oNeg_i, ↓o1I_i, ↓o2I_i, ↓oSl_t, ↓oSl_l, ↓oList_t, ↓oList_l, ↓oTuple_t, ↓oTuple_l, ↓oIn_t, ↓oIn_l, ↓oIsN_n, ↓ixC_ownLi, ↓setC_ownLi, ixN20, ixN21, ex_int1, ex_int2, ↓pSet_eq, ↓ixK_tup, ↓ixK_lst, ↓ixK_str, ↓ixK_dct, ↓lenK_tup, ↓lenK_lst, ↓lenK_str, ↓pSetO_eq, ↓pPar_eq, ↓kPar_mk, ↓pVarV0, ↓pVarL0, ↓pVarD0, ↓pkVarV0, ↓pkVarO0, ↓kSetN0, ↓kSetO_N0, ↓pgNameN0, ↓ixS0, ↓lenS0, ↓setS0, ↓conS0, ↓putS0]
    rw [show (2 : Int) = ((2 : Nat) : Int) from rfl, cut_from _ _ (by simp)]
    exact q
  | _ =>
    simp only [encS]
    try simp only [↓pC, ↓pOp, ↓pUn, ↓pSl, ↓pPart, ↓pNil, ↓pCons, ↓pTup, ↓pLst, ↓pCallB, ↓pTest, ↓pNot, ↓pAnd, ↓pOr, ↓pAndV, ↓pOrV, ↓pNotV, ↓pIf, ↓pNext, ↓pSeq, ↓pBreak, ↓pCont, ↓pDrop, ↓pRet, ↓pRetN, ↓pIfS, ↓pgNil, ↓pgCons, ↓pgTup, ↓pAsg, ↓pRaise, ↓pCall, ↓pIter, ↓pFor, ↓pLc, ↓pYes, ↓pkOf, ↓pIxK, ↓pTabG, ↓pLenK, ↓pChain, ↓pStore, ↓pAppend, ↓pPop, ↓poLst, ↓poDct, ↓pNewW, ↓pRng1, ↓pRng2, ↓pTry, ↓pTryAs, ↓oEq, ↓oNe, ↓oLen, ↓oSum, ↓oAll, ↓oAny, ↓oIsi, start0, List.map_cons, List.map_nil, List.length_cons, List.length_nil, List.cons_append, List.nil_append, List.getElem?_cons_zero, List.getElem?_cons_succ, List.set_cons_zero, List.set_cons_succ, List.replicate, D.bl.injEq, D.int.injEq, D.str.injEq, D.tup.injEq, D.lst.injEq, exists_eq_left', exists_eq_left, Option.some.injEq, Bool.false_eq_true, if_true, if_false, true_and, and_true, false_and, and_false, isi_int, isi_bool, isi_str, isi_tuple, isi_list, isiT_int, isiT_bool, isiT_str, isiT_tuple, isiT_list, Bool.not_true, Bool.not_false, dat_non, dat_bl, dat_int, dat_str, dat_tup, dat_lst, isInt_non, isInt_bl, isInt_int, isInt_str, isInt_tup, isInt_lst, isBool_non, isBool_bl, isBool_int, isBool_str, isBool_tup, isBool_lst, isStr_non, isStr_bl, isStr_int, isStr_str, isStr_tup, isStr_lst, isTup_non, isTup_bl, isTup_int, isTup_str, isTup_tup, isTup_lst, isLst_non, isLst_bl, isLst_int, isLst_str, isLst_tup, isLst_lst, Nat.reduceAdd, Nat.zero_add, sz_0, sz_1, sz_2, sz_3, sz_4, sz_5, sz_6, sz_7, sz_8, sz_9, sz_10, sz_11, sz_12, List.any_cons, List.any_nil, eqD_tup, eqD_str, eqD_int, eqDs_cons, eqDs_nil, eqDs_cn, eqDs_nc, Bool.or_false, Bool.and_true, at0, at1, at2, at3, at4, good_int, good_bl, good_nil, good_nilL, good_non, eqDs_nil_r, eqDs_nil_l, List.isEmpty_nil, List.isEmpty_cons, Bool.and_false, Bool.or_true, Bool.false_or, Bool.true_or, Bool.false_and, Bool.true_and, encB, wipS_mk, List.foldr_cons, List.foldr_nil, con_updW, ↓ixC_ownD, ↓oIx_tup, ↓oIx_lst, ↓oIx_str, ↓lenC_ownL, ↓lenC_ownD, ↓setC_ownD, putC_adr, Own_lst_inj, Con_own_inj, updW_upd, Nat.reduceSub, Nat.sub_self, ↓itD_lst, ↓itD_tup, ↓oInt_i, ↓oCmp_i, ↓oAdd_i, ↓oAdd_s, ↓oAdd_t, ↓oAdd_l, ↓oNeg_i, ↓o1I_i, ↓o2I_i, ↓oSl_t, ↓oSl_l, ↓oList_t, ↓oList_l, ↓oTuple_t, ↓oTuple_l, ↓oIn_t, ↓oIn_l, ↓oIsN_n, ↓ixC_ownLi, ↓setC_ownLi, ixN20, ixN21, ex_int1, ex_int2, ↓pSet_eq, ↓ixK_tup, ↓ixK_lst, ↓ixK_str, ↓ixK_dct, ↓lenK_tup, ↓lenK_lst, ↓lenK_str, ↓pSetO_eq, ↓pPar_eq, ↓kPar_mk, ↓pVarV0, ↓pVarL0, ↓pVarD0, ↓pkVarV0, ↓pkVarO0, ↓kSetN0, ↓kSetO_N0, ↓pgNameN0, ↓ixS0, ↓lenS0, ↓setS0, ↓conS0, ↓putS0]
    refine ⟨by decide +kernel, g1, ?_⟩
    refine ite2 (fun c => absurd c (by decide +kernel)) (fun _ => ?_)
    exact q
abbrev s_listed : Stmt := topS 16
abbrev N_listed : List Str := ["body", "found", "statement", "inner"]
theorem sc_listed : FnScope N_listed ["body"] (defScope s_listed) := ⟨rfl, rfl, rfl, by decide +kernel, rfl, by decide +kernel, by decide +kernel⟩
theorem ok_listed {d : Nat} {k : Nat}  (T : TopD K mg "listed" ["body"] s_listed) (c_bodies_of : CallF P w K mg base "bodies_of" 1 k (φ_bodies_of)) (c_listed : CallF P w K mg base "listed" 1 k (lowφ 1 φ_listed d)) (hd : d ≤ 4) :
    CallF P w K mg base "listed" 1 (k + 1) (φ_listed d) := by
  refine call_of (N := N_listed) (k := k) T sc_listed fun f cdv A outer s H E hr => ⟨_, (pmss_cons (pms_set (i := 1) (fun W t => ps_set (i := 1) sc_listed.nd rfl (.inl rfl) ((pm_lst pma_nil) W t)))
      (pmss_cons (pms_for (passes_of rfl) rfl (pmi_seq (pm_var (pv 0))) (pmg_of (vs := [2]) (pg_name (i := 2) sc_listed.nd rfl (.inl rfl)))
      (pmss_cons (pms_set (i := 1) (fun W t => ps_set (i := 1) sc_listed.nd rfl (.inl rfl) ((pm_op od_add (pm_var (pv 1)) (pm_lst (pma_cons (pm_var (pv 2)) pma_nil))) W t)))
      (pmss_one (pms_for (passes_of rfl) rfl (pmi_seq (pm_callF c_bodies_of hr (by rfl) (pma_cons (pm_var (pv 2)) pma_nil))) (pmg_of (vs := [3]) (pg_name (i := 3) sc_listed.nd rfl (.inl rfl)))
      (pmss_one (pms_set (i := 1) (fun W t => ps_set (i := 1) sc_listed.nd rfl (.inl rfl) ((pm_op od_add (pm_var (pv 1)) (pm_callF c_listed hr (by rfl) (pma_cons (pm_var (pv 3)) pma_nil))) W t))))))))
      (pmss_one (pms_ret (pm_var (pv 1)))))), ?_⟩
  rintro ds Wo Q E' - ⟨b, rfl, hb, q⟩
  have hbn : (listedB b).length ≤ 34952 := Nat.le_trans (okB_bnd hb) (Nat.le_trans (bnd_mono hd) (by decide))
  try simp only [↓pC, ↓pOp, ↓pUn, ↓pSl, ↓pPart, ↓pNil, ↓pCons, ↓pTup, ↓pLst, ↓pCallB, ↓pTest, ↓pNot, ↓pAnd, ↓pOr, ↓pAndV, ↓pOrV, ↓pNotV, ↓pIf, ↓pNext, ↓pSeq, ↓pBreak, ↓pCont, ↓pDrop, ↓pRet, ↓pRetN, ↓pIfS, ↓pgNil, ↓pgCons, ↓pgTup, ↓pAsg, ↓pRaise, ↓pCall, ↓pIter, ↓pFor, ↓pLc, ↓pYes, ↓pkOf, ↓pIxK, ↓pTabG, ↓pLenK, ↓pChain, ↓pStore, ↓pAppend, ↓pPop, ↓poLst, ↓poDct, ↓pNewW, ↓pRng1, ↓pRng2, ↓pTry, ↓pTryAs, ↓oEq, ↓oNe, ↓oLen, ↓oSum, ↓oAll, ↓oAny, ↓oIsi, start0, List.map_cons, List.map_nil, List.length_cons, List.length_nil, List.cons_append, List.nil_append, List.getElem?_cons_zero, List.getElem?_cons_succ, List.set_cons_zero, List.set_cons_succ, List.replicate, D.bl.injEq, D.int.injEq, D.str.injEq, D.tup.injEq, D.lst.injEq, exists_eq_left', exists_eq_left, Option.some.injEq, Bool.false_eq_true, if_true, if_false, true_and, and_true, false_and, and_false, isi_int, isi_bool, isi_str, isi_tuple, isi_list, isiT_int, isiT_bool, isiT_str, isiT_tuple, isiT_list, Bool.not_true, Bool.not_false, dat_non, dat_bl, dat_int, dat_str, dat_tup, dat_lst, isInt_non, isInt_bl, isInt_int, isInt_str, isInt_tup, isInt_lst, isBool_non, isBool_bl, isBool_int, isBool_str, isBool_tup, isBool_lst, isStr_non, isStr_bl, isStr_int, isStr_str, isStr_tup, isStr_lst, isTup_non, isTup_bl, isTup_int, isTup_str, isTup_tup, isTup_lst, isLst_non, isLst_bl, isLst_int, isLst_str, isLst_tup, isLst_lst, Nat.reduceAdd, Nat.zero_add, sz_0, sz_1, sz_2, sz_3, sz_4, sz_5, sz_6, sz_7, sz_8, sz_9, sz_10, sz_11, sz_12, List.any_cons, List.any_nil, eqD_tup, eqD_str, eqD_int, eqDs_cons, eqDs_nil, eqDs_cn, eqDs_nc, Bool.or_false, Bool.and_true, at0, at1, at2, at3, at4, good_int, good_bl, good_nil, good_nilL, good_non, eqDs_nil_r, eqDs_nil_l, List.isEmpty_nil, List.isEmpty_cons, Bool.and_false, Bool.or_true, Bool.false_or, Bool.true_or, Bool.false_and, Bool.true_and, encB, wipS_mk, List.foldr_cons, List.foldr_nil, con_updW, ↓ixC_ownD, ↓oIx_tup, ↓oIx_lst, ↓oIx_str, ↓lenC_ownL, ↓lenC_ownD, ↓setC_ownD, putC_adr, Own_lst_inj, Con_own_inj, updW_upd, Nat.reduceSub, Nat.sub_self, ↓itD_lst, ↓itD_tup, ↓oInt_i, ↓oCmp_i, ↓oAdd_i, ↓oAdd_s, ↓oAdd_t, ↓oAdd_l, ↓oNeg_i, ↓o1I_i, ↓o2I_i, ↓oSl_t, ↓oSl_l, ↓oList_t, ↓oList_l, ↓oTuple_t, ↓oTuple_l, ↓oIn_t, ↓oIn_l, ↓oIsN_n, ↓ixC_ownLi, ↓setC_ownLi, ixN20, ixN21, ex_int1, ex_int2, ↓pSet_eq, ↓ixK_tup, ↓ixK_lst, ↓ixK_str, ↓ixK_dct, ↓lenK_tup, ↓lenK_lst, ↓lenK_str, ↓pSetO_eq, ↓pPar_eq, ↓kPar_mk, ↓pVarV0, ↓pVarV1, ↓pVarV2, ↓pVarV3, ↓pVarL0, ↓pVarL1, ↓pVarL2, ↓pVarL3, ↓pVarD0, ↓pVarD1, ↓pVarD2, ↓pVarD3, ↓pkVarV0, ↓pkVarV1, ↓pkVarV2, ↓pkVarV3, ↓pkVarO0, ↓pkVarO1, ↓pkVarO2, ↓pkVarO3, ↓kSetN0, ↓kSetN1, ↓kSetN2, ↓kSetN3, ↓kSetO_N0, ↓kSetO_N1, ↓kSetO_N2, ↓kSetO_N3, ↓pgNameN0, ↓pgNameN1, ↓pgNameN2, ↓pgNameN3, ↓ixS0, ↓ixS1, ↓ixS2, ↓ixS3, ↓lenS0, ↓lenS1, ↓lenS2, ↓lenS3, ↓setS0, ↓setS1, ↓setS2, ↓setS3, ↓conS0, ↓conS1, ↓conS2, ↓conS3, ↓putS0, ↓putS1, ↓putS2, ↓putS3]
  rw [encSs_map]
  refine forW_list encS (fun r S => ∃ b0 s2 s3, b = b0 ++ r ∧ S = ⟨[.val (.tup (encSs b)), .val (.lst ((listedB b0).map encS)), s2, s3], Wo⟩) ?_ ?_ b _ ⟨[], .emp, .emp, rfl, by rw [encSs_map]; rfl⟩
  · rintro S ⟨b0, s2, s3, e, rfl⟩
    try simp only [↓pC, ↓pOp, ↓pUn, ↓pSl, ↓pPart, ↓pNil, ↓pCons, ↓pTup, ↓pLst, ↓pCallB, ↓pTest, ↓pNot, ↓pAnd, ↓pOr, ↓pAndV, ↓pOrV, ↓pNotV, ↓pIf, ↓pNext, ↓pSeq, ↓pBreak, ↓pCont, ↓pDrop, ↓pRet, ↓pRetN, ↓pIfS, ↓pgNil, ↓pgCons, ↓pgTup, ↓pAsg, ↓pRaise, ↓pCall, ↓pIter, ↓pFor, ↓pLc, ↓pYes, ↓pkOf, ↓pIxK, ↓pTabG, ↓pLenK, ↓pChain, ↓pStore, ↓pAppend, ↓pPop, ↓poLst, ↓poDct, ↓pNewW, ↓pRng1, ↓pRng2, ↓pTry, ↓pTryAs, ↓oEq, ↓oNe, ↓oLen, ↓oSum, ↓oAll, ↓oAny, ↓oIsi, start0, List.map_cons, List.map_nil, List.length_cons, List.length_nil, List.cons_append, List.nil_append, List.getElem?_cons_zero, List.getElem?_cons_succ, List.set_cons_zero, List.set_cons_succ, List.replicate, D.bl.injEq, D.int.injEq, D.str.injEq, D.tup.injEq, D.lst.injEq, exists_eq_left', exists_eq_left, Option.some.injEq, Bool.false_eq_true, if_true, if_false, true_and, and_true, false_and, and_false, isi_int, isi_bool, isi_str, isi_tuple, isi_list, isiT_int, isiT_bool, isiT_str, isiT_tuple, isiT_list, Bool.not_true, Bool.not_false, dat_non, dat_bl, dat_int, dat_str, dat_tup, dat_lst, isInt_non, isInt_bl, isInt_int, isInt_str, isInt_tup, isInt_lst, isBool_non, isBool_bl, isBool_int, isBool_str, isBool_tup, isBool_lst, isStr_non, isStr_bl, isStr_int, isStr_str, isStr_tup, isStr_lst, isTup_non, isTup_bl, isTup_int, isTup_str, isTup_tup, isTup_lst, isLst_non, isLst_bl, isLst_int, isLst_str, isLst_tup, isLst_lst, Nat.reduceAdd, Nat.zero_add, sz_0, sz_1, sz_2, sz_3, sz_4, sz_5, sz_6, sz_7, sz_8, sz_9, sz_10, sz_11, sz_12, List.any_cons, List.any_nil, eqD_tup, eqD_str, eqD_int, eqDs_cons, eqDs_nil, eqDs_cn, eqDs_nc, Bool.or_false, Bool.and_true, at0, at1, at2, at3, at4, good_int, good_bl, good_nil, good_nilL, good_non, eqDs_nil_r, eqDs_nil_l, List.isEmpty_nil, List.isEmpty_cons, Bool.and_false, Bool.or_true, Bool.false_or, Bool.true_or, Bool.false_and, Bool.true_and, encB, wipS_mk, List.foldr_cons, List.foldr_nil, con_updW, ↓ixC_ownD, ↓oIx_tup, ↓oIx_lst, ↓oIx_str, ↓lenC_ownL, ↓lenC_ownD, ↓setC_ownD, putC_adr, Own_lst_inj, Con_own_inj, updW_upd, Nat.reduceSub, Nat.sub_self, ↓itD_lst, ↓itD_tup, ↓oInt_i, ↓oCmp_i, ↓oAdd_i, ↓oAdd_s, ↓oAdd_t, ↓oAdd_l, ↓oNeg_i, ↓o1I_i, ↓o2I_i, ↓oSl_t, ↓oSl_l, ↓oList_t, ↓oList_l, ↓oTuple_t, ↓oTuple_l, ↓oIn_t, ↓oIn_l, ↓oIsN_n, ↓ixC_ownLi, ↓setC_ownLi, ixN20, ixN21, ex_int1, ex_int2, ↓pSet_eq, ↓ixK_tup, ↓ixK_lst, ↓ixK_str, ↓ixK_dct, ↓lenK_tup, ↓lenK_lst, ↓lenK_str, ↓pSetO_eq, ↓pPar_eq, ↓kPar_mk, ↓pVarV0, ↓pVarV1, ↓pVarV2, ↓pVarV3, ↓pVarL0, ↓pVarL1, ↓pVarL2, ↓pVarL3, ↓pVarD0, ↓pVarD1, ↓pVarD2, ↓pVarD3, ↓pkVarV0, ↓pkVarV1, ↓pkVarV2, ↓pkVarV3, ↓pkVarO0, ↓pkVarO1, ↓pkVarO2, ↓pkVarO3, ↓kSetN0, ↓kSetN1, ↓kSetN2, ↓kSetN3, ↓kSetO_N0, ↓kSetO_N1, ↓kSetO_N2, ↓kSetO_N3, ↓pgNameN0, ↓pgNameN1, ↓pgNameN2, ↓pgNameN3, ↓ixS0, ↓ixS1, ↓ixS2, ↓ixS3, ↓lenS0, ↓lenS1, ↓lenS2, ↓lenS3, ↓setS0, ↓setS1, ↓setS2, ↓setS3, ↓conS0, ↓conS1, ↓conS2, ↓conS3, ↓putS0, ↓putS1, ↓putS2, ↓putS3]
    rw [List.append_nil] at e
    exact e ▸ q
  · rintro s r S K' ⟨b0, s2, s3, e, rfl⟩ hK
    have hs : okS d s = true := (okB_iff.mp hb).2 s (by rw [e]; simp)
    have el : listedB b = listedB b0 ++ (listedS s ++ listedB r) := by rw [e, listedB_append]; rfl
    have eL := congrArg List.length el
    simp only [List.length_append] at eL
    have hp := listedS_pos s
    have hp := listedS_pos s
    try simp only [↓pC, ↓pOp, ↓pUn, ↓pSl, ↓pPart, ↓pNil, ↓pCons, ↓pTup, ↓pLst, ↓pCallB, ↓pTest, ↓pNot, ↓pAnd, ↓pOr, ↓pAndV, ↓pOrV, ↓pNotV, ↓pIf, ↓pNext, ↓pSeq, ↓pBreak, ↓pCont, ↓pDrop, ↓pRet, ↓pRetN, ↓pIfS, ↓pgNil, ↓pgCons, ↓pgTup, ↓pAsg, ↓pRaise, ↓pCall, ↓pIter, ↓pFor, ↓pLc, ↓pYes, ↓pkOf, ↓pIxK, ↓pTabG, ↓pLenK, ↓pChain, ↓pStore, ↓pAppend, ↓pPop, ↓poLst, ↓poDct, ↓pNewW, ↓pRng1, ↓pRng2, ↓pTry, ↓pTryAs, ↓oEq, ↓oNe, ↓oLen, ↓oSum, ↓oAll, ↓oAny, ↓oIsi, start0, List.map_cons, List.map_nil, List.length_cons, List.length_nil, List.cons_append, List.nil_append, List.getElem?_cons_zero, List.getElem?_cons_succ, List.set_cons_zero, List.set_cons_succ, List.replicate, D.bl.injEq, D.int.injEq, D.str.injEq, D.tup.injEq, D.lst.injEq, exists_eq_left', exists_eq_left, Option.some.injEq, Bool.false_eq_true, if_true, if_false, true_and, and_true, false_and, and_false, isi_int, isi_bool, isi_str, isi_tuple, isi_list, isiT_int, isiT_bool, isiT_str, isiT_tuple, isiT_list, Bool.not_true, Bool.not_false, dat_non, dat_bl, dat_int, dat_str, dat_tup, dat_lst, isInt_non, isInt_bl, isInt_int, isInt_str, isInt_tup, isInt_lst, isBool_non, isBool_bl, isBool_int, isBool_str, isBool_tup, isBool_lst, isStr_non, isStr_bl, isStr_int, isStr_str, isStr_tup, isStr_lst, isTup_non, isTup_bl, isTup_int, isTup_str, isTup_tup, isTup_lst, isLst_non, isLst_bl, isLst_int, isLst_str, isLst_tup, isLst_lst, Nat.reduceAdd, Nat.zero_add, sz_0, sz_1, sz_2, sz_3, sz_4, sz_5, sz_6, sz_7, sz_8, sz_9, sz_10, sz_11, sz_12, List.any_cons, List.any_nil, eqD_tup, eqD_str, eqD_int, eqDs_cons, eqDs_nil, eqDs_cn, eqDs_nc, Bool.or_false, Bool.and_true, at0, at1, at2, at3, at4, good_int, good_bl, good_nil, good_nilL, good_non, eqDs_nil_r, eqDs_nil_l, List.isEmpty_nil, List.isEmpty_cons, Bool.and_false, Bool.or_true, Bool.false_or, Bool.true_or, Bool.false_and, Bool.true_and, encB, wipS_mk, List.foldr_cons, List.foldr_nil, con_updW, ↓ixC_ownD, ↓oIx_tup, ↓oIx_lst, ↓oIx_str, ↓lenC_ownL, ↓lenC_ownD, ↓setC_ownD, putC_adr, Own_lst_inj, Con_own_inj, updW_upd, Nat.reduceSub, Nat.sub_self, ↓itD_lst, ↓itD_tup, ↓oInt_i, ↓oCmp_i, ↓oAdd_i, ↓oAdd_s, ↓oAdd_t, ↓oAdd_l, ↓oNeg_i, ↓o1I_i, ↓o2I_i, ↓oSl_t, ↓oSl_l, ↓oList_t, ↓oList_l, ↓oTuple_t, ↓oTuple_l, ↓oIn_t, ↓oIn_l, ↓oIsN_n, ↓ixC_ownLi, ↓setC_ownLi, ixN20, ixN21, ex_int1, ex_int2, ↓pSet_eq, ↓ixK_tup, ↓ixK_lst, ↓ixK_str, ↓ixK_dct, ↓lenK_tup, ↓lenK_lst, ↓lenK_str, ↓pSetO_eq, ↓pPar_eq, ↓kPar_mk, ↓pVarV0, ↓pVarV1, ↓pVarV2, ↓pVarV3, ↓pVarL0, ↓pVarL1, ↓pVarL2, ↓pVarL3, ↓pVarD0, ↓pVarD1, ↓pVarD2, ↓pVarD3, ↓pkVarV0, ↓pkVarV1, ↓pkVarV2, ↓pkVarV3, ↓pkVarO0, ↓pkVarO1, ↓pkVarO2, ↓pkVarO3, ↓kSetN0, ↓kSetN1, ↓kSetN2, ↓kSetN3, ↓kSetO_N0, ↓kSetO_N1, ↓kSetO_N2, ↓kSetO_N3, ↓pgNameN0, ↓pgNameN1, ↓pgNameN2, ↓pgNameN3, ↓ixS0, ↓ixS1, ↓ixS2, ↓ixS3, ↓lenS0, ↓lenS1, ↓lenS2, ↓lenS3, ↓setS0, ↓setS1, ↓setS2, ↓setS3, ↓conS0, ↓conS1, ↓conS2, ↓conS3, ↓putS0, ↓putS1, ↓putS2, ↓putS3]
    refine ⟨by show _ ≤ 2 ^ 24; rw [List.length_map]; omega, s, rfl, ?_⟩
    have done : ∀ s3, K' ⟨[.val (.tup (encSs b)), .val (.lst ((listedB (b0 ++ [s])).map encS)), .val (encS s), s3], Wo⟩ := fun s3 => hK _ ⟨b0 ++ [s], _, _, by rw [e]; simp, rfl⟩
    have e1 : listedB (b0 ++ [s]) = listedB b0 ++ listedS s := by rw [listedB_append, listedB, listedB, List.append_nil]
    rw [e1] at done
    cases s with
    | ite t x y =>
      cases d with
      | zero => simp [okS] at hs
      | succ d =>
        obtain ⟨_, hx, hy⟩ := okS_ite.mp hs
        simp only [listedS, List.length_cons, List.length_append] at eL
        try simp only [bodD, forW, Nat.add_sub_cancel, ↓pC, ↓pOp, ↓pUn, ↓pSl, ↓pPart, ↓pNil, ↓pCons, ↓pTup, ↓pLst, ↓pCallB, ↓pTest, ↓pNot, ↓pAnd, ↓pOr, ↓pAndV, ↓pOrV, ↓pNotV, ↓pIf, ↓pNext, ↓pSeq, ↓pBreak, ↓pCont, ↓pDrop, ↓pRet, ↓pRetN, ↓pIfS, ↓pgNil, ↓pgCons, ↓pgTup, ↓pAsg, ↓pRaise, ↓pCall, ↓pIter, ↓pFor, ↓pLc, ↓pYes, ↓pkOf, ↓pIxK, ↓pTabG, ↓pLenK, ↓pChain, ↓pStore, ↓pAppend, ↓pPop, ↓poLst, ↓poDct, ↓pNewW, ↓pRng1, ↓pRng2, ↓pTry, ↓pTryAs, ↓oEq, ↓oNe, ↓oLen, ↓oSum, ↓oAll, ↓oAny, ↓oIsi, start0, List.map_cons, List.map_nil, List.length_cons, List.length_nil, List.cons_append, List.nil_append, List.getElem?_cons_zero, List.getElem?_cons_succ, List.set_cons_zero, List.set_cons_succ, List.replicate, D.bl.injEq, D.int.injEq, D.str.injEq, D.tup.injEq, D.lst.injEq, exists_eq_left', exists_eq_left, Option.some.injEq, Bool.false_eq_true, if_true, if_false, true_and, and_true, false_and, and_false, isi_int, isi_bool, isi_str, isi_tuple, isi_list, isiT_int, isiT_bool, isiT_str, isiT_tuple, isiT_list, Bool.not_true, Bool.not_false, dat_non, dat_bl, dat_int, dat_str, dat_tup, dat_lst, isInt_non, isInt_bl, isInt_int, isInt_str, isInt_tup, isInt_lst, isBool_non, isBool_bl, isBool_int, isBool_str, isBool_tup, isBool_lst, isStr_non, isStr_bl, isStr_int, isStr_str, isStr_tup, isStr_lst, isTup_non, isTup_bl, isTup_int, isTup_str, isTup_tup, isTup_lst, isLst_non, isLst_bl, isLst_int, isLst_str, isLst_tup, isLst_lst, Nat.reduceAdd, Nat.zero_add, sz_0, sz_1, sz_2, sz_3, sz_4, sz_5, sz_6, sz_7, sz_8, sz_9, sz_10, sz_11, sz_12, List.any_cons, List.any_nil, eqD_tup, eqD_str, eqD_int, eqDs_cons, eqDs_nil, eqDs_cn, eqDs_nc, Bool.or_false, Bool.and_true, at0, at1, at2, at3, at4, good_int, good_bl, good_nil, good_nilL, good_non, eqDs_nil_r, eqDs_nil_l, List.isEmpty_nil, List.isEmpty_cons, Bool.and_false, Bool.or_true, Bool.false_or, Bool.true_or, Bool.false_and, Bool.true_and, encB, wipS_mk, List.foldr_cons, List.foldr_nil, con_updW, ↓ixC_ownD, ↓oIx_tup, ↓oIx_lst, ↓oIx_str, ↓lenC_ownL, ↓lenC_ownD, ↓setC_ownD, putC_adr, Own_lst_inj, Con_own_inj, updW_upd, Nat.reduceSub, Nat.sub_self, ↓itD_lst, ↓itD_tup, ↓oInt_i, ↓oCmp_i, ↓oAdd_i, ↓oAdd_s, ↓oAdd_t, ↓oAdd_l, ↓oNeg_i, ↓o1I_i, ↓o2I_i, ↓oSl_t, ↓oSl_l, ↓oList_t, ↓oList_l, ↓oTuple_t, ↓oTuple_l, ↓oIn_t, ↓oIn_l, ↓oIsN_n, ↓ixC_ownLi, ↓setC_ownLi, ixN20, ixN21, ex_int1, ex_int2, ↓pSet_eq, ↓ixK_tup, ↓ixK_lst, ↓ixK_str, ↓ixK_dct, ↓lenK_tup, ↓lenK_lst, ↓lenK_str, ↓pSetO_eq, ↓pPar_eq, ↓kPar_mk, ↓pVarV0, ↓pVarV1, ↓pVarV2, ↓pVarV3, ↓pVarL0, ↓pVarL1, ↓pVarL2, ↓pVarL3, ↓pVarD0, ↓pVarD1, ↓pVarD2, ↓pVarD3, ↓pkVarV0, ↓pkVarV1, ↓pkVarV2, ↓pkVarV3, ↓pkVarO0, ↓pkVarO1, ↓pkVarO2, ↓pkVarO3, ↓kSetN0, ↓kSetN1, ↓kSetN2, ↓kSetN3, ↓kSetO_N0, ↓kSetO_N1, ↓kSetO_N2, ↓kSetO_N3, ↓pgNameN0, ↓pgNameN1, ↓pgNameN2, ↓pgNameN3, ↓ixS0, ↓ixS1, ↓ixS2, ↓ixS3, ↓lenS0, ↓lenS1, ↓lenS2, ↓lenS3, ↓setS0, ↓setS1, ↓setS2, ↓setS3, ↓conS0, ↓conS1, ↓conS2, ↓conS3, ↓putS0, ↓putS1, ↓putS2, ↓putS3]
        refine ⟨by omega, x, rfl, hx, ?_, by omega, y, rfl, hy, ?_, ?_⟩
        · show _ ≤ 2 ^ 24; simp only [List.length_append, List.length_map, List.length_singleton]; omega
        · show _ ≤ 2 ^ 24; simp only [List.length_append, List.length_map, List.length_singleton]; omega
        · have := done (.val (encB y))
          simp only [listedS, List.map_append, List.map_cons, List.append_assoc, List.cons_append] at this
          simpa only [List.append_assoc, List.cons_append, List.nil_append, encB] using this
    | _ =>
      try simp only [bodD, forW, ↓pC, ↓pOp, ↓pUn, ↓pSl, ↓pPart, ↓pNil, ↓pCons, ↓pTup, ↓pLst, ↓pCallB, ↓pTest, ↓pNot, ↓pAnd, ↓pOr, ↓pAndV, ↓pOrV, ↓pNotV, ↓pIf, ↓pNext, ↓pSeq, ↓pBreak, ↓pCont, ↓pDrop, ↓pRet, ↓pRetN, ↓pIfS, ↓pgNil, ↓pgCons, ↓pgTup, ↓pAsg, ↓pRaise, ↓pCall, ↓pIter, ↓pFor, ↓pLc, ↓pYes, ↓pkOf, ↓pIxK, ↓pTabG, ↓pLenK, ↓pChain, ↓pStore, ↓pAppend, ↓pPop, ↓poLst, ↓poDct, ↓pNewW, ↓pRng1, ↓pRng2, ↓pTry, ↓pTryAs, ↓oEq, ↓oNe, ↓oLen, ↓oSum, ↓oAll, ↓oAny, ↓oIsi, start0, List.map_cons, List.map_nil, List.length_cons, List.length_nil, List.cons_append, List.nil_append, List.getElem?_cons_zero, List.getElem?_cons_succ, List.set_cons_zero, List.set_cons_succ, List.replicate, D.bl.injEq, D.int.injEq, D.str.injEq, D.tup.injEq, D.lst.injEq, exists_eq_left', exists_eq_left, Option.some.injEq, Bool.false_eq_true, if_true, if_false, true_and, and_true, false_and, and_false, isi_int, isi_bool, isi_str, isi_tuple, isi_list, isiT_int, isiT_bool, isiT_str, isiT_tuple, isiT_list, Bool.not_true, Bool.not_false, dat_non, dat_bl, dat_int, dat_str, dat_tup, dat_lst, isInt_non, isInt_bl, isInt_int, isInt_str, isInt_tup, isInt_lst, isBool_non, isBool_bl, isBool_int, isBool_str, isBool_tup, isBool_lst, isStr_non, isStr_bl, isStr_int, isStr_str, isStr_tup, isStr_lst, isTup_non, isTup_bl, isTup_int, isTup_str, isTup_tup, isTup_lst, isLst_non, isLst_bl, isLst_int, isLst_str, isLst_tup, isLst_lst, Nat.reduceAdd, Nat.zero_add, sz_0, sz_1, sz_2, sz_3, sz_4, sz_5, sz_6, sz_7, sz_8, sz_9, sz_10, sz_11, sz_12, List.any_cons, List.any_nil, eqD_tup, eqD_str, eqD_int, eqDs_cons, eqDs_nil, eqDs_cn, eqDs_nc, Bool.or_false, Bool.and_true, at0, at1, at2, at3, at4, good_int, good_bl, good_nil, good_nilL, good_non, eqDs_nil_r, eqDs_nil_l, List.isEmpty_nil, List.isEmpty_cons, Bool.and_false, Bool.or_true, Bool.false_or, Bool.true_or, Bool.false_and, Bool.true_and, encB, wipS_mk, List.foldr_cons, List.foldr_nil, con_updW, ↓ixC_ownD, ↓oIx_tup, ↓oIx_lst, ↓oIx_str, ↓lenC_ownL, ↓lenC_ownD, ↓setC_ownD, putC_adr, Own_lst_inj, Con_own_inj, updW_upd, Nat.reduceSub, Nat.sub_self, ↓itD_lst, ↓itD_tup, ↓oInt_i, ↓oCmp_i, ↓oAdd_i, ↓oAdd_s, ↓oAdd_t, ↓oAdd_l, ↓oNeg_i, ↓o1I_i, ↓o2I_i, ↓oSl_t, ↓oSl_l, ↓oList_t, ↓oList_l, ↓oTuple_t, ↓oTuple_l, ↓oIn_t, ↓oIn_l, ↓oIsN_n, ↓ixC_ownLi, ↓setC_ownLi, ixN20, ixN21, ex_int1, ex_int2, ↓pSet_eq, ↓ixK_tup, ↓ixK_lst, ↓ixK_str, ↓ixK_dct, ↓lenK_tup, ↓lenK_lst, ↓lenK_str, ↓pSetO_eq, ↓pPar_eq, ↓kPar_mk, ↓pVarV0, ↓pVarV1, ↓pVarV2, ↓pVarV3, ↓pVarL0, ↓pVarL1, ↓pVarL2, ↓pVarL3, ↓pVarD0, ↓pVarD1, ↓pVarD2, ↓pVarD3, ↓pkVarV0, ↓pkVarV1, ↓pkVarV2, ↓pkVarV3, ↓pkVarO0, ↓pkVarO1, ↓pkVarO2, ↓pkVarO3, ↓kSetN0, ↓kSetN1, ↓kSetN2, ↓kSetN3, ↓kSetO_N0, ↓kSetO_N1, ↓kSetO_N2, ↓kSetO_N3, ↓pgNameN0, ↓pgNameN1, ↓pgNameN2, ↓pgNameN3, ↓ixS0, ↓ixS1, ↓ixS2, ↓ixS3, ↓lenS0, ↓lenS1, ↓lenS2, ↓lenS3, ↓setS0, ↓setS1, ↓setS2, ↓setS3, ↓conS0, ↓conS1, ↓conS2, ↓conS3, ↓putS0, ↓putS1, ↓putS2, ↓putS3]
      have := done s3
      simpa only [listedS, List.map_append, List.map_cons, List.map_nil] using this
abbrev s_is_loop : Stmt := topS 17
abbrev N_is_loop : List Str := ["value", "part"]
theorem sc_is_loop : FnScope N_is_loop ["value"] (defScope s_is_loop) := ⟨rfl, rfl, rfl, by decide +kernel, rfl, by decide +kernel, by decide +kernel⟩
theorem ok_is_loop  {k : Nat}  (T : TopD K mg "is_loop" ["value"] s_is_loop) (m_len : mg "len" = none) (c_listed : CallF P w K mg base "listed" 1 k (φ_listed 3)) (g_MOST_STATEMENTS : GI mg "MOST_STATEMENTS" 12) (c_is_body : CallF P w K mg base "is_body" 2 k (φ_is_body 3)) (g_MOST_DEEP : GI mg "MOST_DEEP" 3) (m_all : mg "all" = none) (c_is_number : CallF P w K mg base "is_number" 3 k (φ_is_number)) (g_MOST_TIME : GI mg "MOST_TIME" 8) (m_isinstance : mg "isinstance" = none) (m_tuple : mg "tuple" = none)  :
    CallF P w K mg base "is_loop" 1 (k + 1) (φ_is_loop) := by
  refine call_of (N := N_is_loop) (k := k) T sc_is_loop fun f cdv A outer s H E hr => ⟨_, (pmss_cons (pms_if (pmt_w (pmw_or (pmt_not (pmt_val (pm_callB cd_isi (by rfl) m_isinstance (by decide +kernel) (pma_cons (pm_var (pv 0)) (pma_cons (pm_ty (by rfl) m_tuple boot_tuple) pma_nil))))) (pmw_or1 (pmt_cmp (od_ne (Room.hu64 hr)) (pm_lenK (by rfl) m_len (pk_var (pv 0))) pm_int (nomark _))))) (pmss_one (pms_ret pm_bl)) pmss_nil)
      (pmss_cons (pms_if (pmt_w (pmw_or (pmt_not (pmt_val (pm_callB (cd_all rfl) (by rfl) m_all (by decide +kernel) (pma_cons (pm_lc (own := [("part", 1)]) rfl sc_is_loop.nd (pmi_seq (pm_slice sld (pm_var (pv 0)) (.inl ⟨rfl, rfl⟩) (.inr ⟨_, _, rfl, rfl, pm_int⟩))) (blkOk_by (own := [("part", 1)]) (N := N_is_loop) (sc := defScope s_is_loop) (by decide +kernel)) (fun _ _ _ _ _ => (pmg_of (vs := [1]) (pg_name (i := 1) sc_is_loop.nd rfl (.inl rfl)))) (fun _ _ _ _ _ => pmts_nil) (fun _ _ _ _ _ => (pm_callF c_is_number hr (by rfl) (pma_cons (pm_var (pv 1)) (pma_cons pm_int (pma_cons (pm_gi g_MOST_TIME (by rfl)) pma_nil)))))) pma_nil)))) (pmw_or1 (pmt_cmp od_gt (pm_ixK (Room.hu1 hr) (pk_var (pv 0)) pm_int (fun _ _ => rfl)) (pm_ixK (Room.hu1 hr) (pk_var (pv 0)) pm_int (fun _ _ => rfl)) (nomark _))))) (pmss_one (pms_ret pm_bl)) pmss_nil)
      (pmss_one (pms_ret (pm_and (pm_callF c_is_body hr (by rfl) (pma_cons (pm_ixK (Room.hu1 hr) (pk_var (pv 0)) pm_int (fun _ _ => rfl)) (pma_cons (pm_gi g_MOST_DEEP (by rfl)) pma_nil))) (pm_one (pm_cmp od_le (pm_lenK (by rfl) m_len (pk_of (pm_callF c_listed hr (by rfl) (pma_cons (pm_ixK (Room.hu1 hr) (pk_var (pv 0)) pm_int (fun _ _ => rfl)) pma_nil)))) (pm_gi g_MOST_STATEMENTS (by rfl)) (nomark _)))))))), ?_⟩
  rintro ds Wo Q E' - ⟨v, rfl, hv, q⟩
  have hq : ∀ b, isLoop v = b → Q (.bl b) Wo := fun b h => h ▸ q
  try simp only [↓pC, ↓pOp, ↓pUn, ↓pSl, ↓pPart, ↓pNil, ↓pCons, ↓pTup, ↓pLst, ↓pCallB, ↓pTest, ↓pNot, ↓pAnd, ↓pOr, ↓pAndV, ↓pOrV, ↓pNotV, ↓pIf, ↓pNext, ↓pSeq, ↓pBreak, ↓pCont, ↓pDrop, ↓pRet, ↓pRetN, ↓pIfS, ↓pgNil, ↓pgCons, ↓pgTup, ↓pAsg, ↓pRaise, ↓pCall, ↓pIter, ↓pFor, ↓pLc, ↓pYes, ↓pkOf, ↓pIxK, ↓pTabG, ↓pLenK, ↓pChain, ↓pStore, ↓pAppend, ↓pPop, ↓poLst, ↓poDct, ↓pNewW, ↓pRng1, ↓pRng2, ↓pTry, ↓pTryAs, ↓oEq, ↓oNe, ↓oLen, ↓oSum, ↓oAll, ↓oAny, ↓oIsi, start0, List.map_cons, List.map_nil, List.length_cons, List.length_nil, List.cons_append, List.nil_append, List.getElem?_cons_zero, List.getElem?_cons_succ, List.set_cons_zero, List.set_cons_succ, List.replicate, D.bl.injEq, D.int.injEq, D.str.injEq, D.tup.injEq, D.lst.injEq, exists_eq_left', exists_eq_left, Option.some.injEq, Bool.false_eq_true, if_true, if_false, true_and, and_true, false_and, and_false, isi_int, isi_bool, isi_str, isi_tuple, isi_list, isiT_int, isiT_bool, isiT_str, isiT_tuple, isiT_list, Bool.not_true, Bool.not_false, dat_non, dat_bl, dat_int, dat_str, dat_tup, dat_lst, isInt_non, isInt_bl, isInt_int, isInt_str, isInt_tup, isInt_lst, isBool_non, isBool_bl, isBool_int, isBool_str, isBool_tup, isBool_lst, isStr_non, isStr_bl, isStr_int, isStr_str, isStr_tup, isStr_lst, isTup_non, isTup_bl, isTup_int, isTup_str, isTup_tup, isTup_lst, isLst_non, isLst_bl, isLst_int, isLst_str, isLst_tup, isLst_lst, Nat.reduceAdd, Nat.zero_add, sz_0, sz_1, sz_2, sz_3, sz_4, sz_5, sz_6, sz_7, sz_8, sz_9, sz_10, sz_11, sz_12, List.any_cons, List.any_nil, eqD_tup, eqD_str, eqD_int, eqDs_cons, eqDs_nil, eqDs_cn, eqDs_nc, Bool.or_false, Bool.and_true, at0, at1, at2, at3, at4, good_int, good_bl, good_nil, good_nilL, good_non, eqDs_nil_r, eqDs_nil_l, List.isEmpty_nil, List.isEmpty_cons, Bool.and_false, Bool.or_true, Bool.false_or, Bool.true_or, Bool.false_and, Bool.true_and, encB, wipS_mk, List.foldr_cons, List.foldr_nil, con_updW, ↓ixC_ownD, ↓oIx_tup, ↓oIx_lst, ↓oIx_str, ↓lenC_ownL, ↓lenC_ownD, ↓setC_ownD, putC_adr, Own_lst_inj, Con_own_inj, updW_upd, Nat.reduceSub, Nat.sub_self, ↓itD_lst, ↓itD_tup, ↓oInt_i, ↓oCmp_i, ↓oAdd_i, ↓oAdd_s, ↓oAdd_t, ↓oAdd_l, ↓oNeg_i, ↓o1I_i, ↓o2I_i, ↓oSl_t, ↓oSl_l, ↓oList_t, ↓oList_l, ↓oTuple_t, ↓oTuple_l, ↓oIn_t, ↓oIn_l, ↓oIsN_n, ↓ixC_ownLi, ↓setC_ownLi, ixN20, ixN21, ex_int1, ex_int2, ↓pSet_eq, ↓ixK_tup, ↓ixK_lst, ↓ixK_str, ↓ixK_dct, ↓lenK_tup, ↓lenK_lst, ↓lenK_str, ↓pSetO_eq, ↓pPar_eq, ↓kPar_mk, ↓pVarV0, ↓pVarV1, ↓pVarL0, ↓pVarL1, ↓pVarD0, ↓pVarD1, ↓pkVarV0, ↓pkVarV1, ↓pkVarO0, ↓pkVarO1, ↓kSetN0, ↓kSetN1, ↓kSetO_N0, ↓kSetO_N1, ↓pgNameN0, ↓pgNameN1, ↓ixS0, ↓ixS1, ↓lenS0, ↓lenS1, ↓setS0, ↓setS1, ↓conS0, ↓conS1, ↓putS0, ↓putS1]
  cases v with
  | tup xs =>
    try simp only [↓pC, ↓pOp, ↓pUn, ↓pSl, ↓pPart, ↓pNil, ↓pCons, ↓pTup, ↓pLst, ↓pCallB, ↓pTest, ↓pNot, ↓pAnd, ↓pOr, ↓pAndV, ↓pOrV, ↓pNotV, ↓pIf, ↓pNext, ↓pSeq, ↓pBreak, ↓pCont, ↓pDrop, ↓pRet, ↓pRetN, ↓pIfS, ↓pgNil, ↓pgCons, ↓pgTup, ↓pAsg, ↓pRaise, ↓pCall, ↓pIter, ↓pFor, ↓pLc, ↓pYes, ↓pkOf, ↓pIxK, ↓pTabG, ↓pLenK, ↓pChain, ↓pStore, ↓pAppend, ↓pPop, ↓poLst, ↓poDct, ↓pNewW, ↓pRng1, ↓pRng2, ↓pTry, ↓pTryAs, ↓oEq, ↓oNe, ↓oLen, ↓oSum, ↓oAll, ↓oAny, ↓oIsi, start0, List.map_cons, List.map_nil, List.length_cons, List.length_nil, List.cons_append, List.nil_append, List.getElem?_cons_zero, List.getElem?_cons_succ, List.set_cons_zero, List.set_cons_succ, List.replicate, D.bl.injEq, D.int.injEq, D.str.injEq, D.tup.injEq, D.lst.injEq, exists_eq_left', exists_eq_left, Option.some.injEq, Bool.false_eq_true, if_true, if_false, true_and, and_true, false_and, and_false, isi_int, isi_bool, isi_str, isi_tuple, isi_list, isiT_int, isiT_bool, isiT_str, isiT_tuple, isiT_list, Bool.not_true, Bool.not_false, dat_non, dat_bl, dat_int, dat_str, dat_tup, dat_lst, isInt_non, isInt_bl, isInt_int, isInt_str, isInt_tup, isInt_lst, isBool_non, isBool_bl, isBool_int, isBool_str, isBool_tup, isBool_lst, isStr_non, isStr_bl, isStr_int, isStr_str, isStr_tup, isStr_lst, isTup_non, isTup_bl, isTup_int, isTup_str, isTup_tup, isTup_lst, isLst_non, isLst_bl, isLst_int, isLst_str, isLst_tup, isLst_lst, Nat.reduceAdd, Nat.zero_add, sz_0, sz_1, sz_2, sz_3, sz_4, sz_5, sz_6, sz_7, sz_8, sz_9, sz_10, sz_11, sz_12, List.any_cons, List.any_nil, eqD_tup, eqD_str, eqD_int, eqDs_cons, eqDs_nil, eqDs_cn, eqDs_nc, Bool.or_false, Bool.and_true, at0, at1, at2, at3, at4, good_int, good_bl, good_nil, good_nilL, good_non, eqDs_nil_r, eqDs_nil_l, List.isEmpty_nil, List.isEmpty_cons, Bool.and_false, Bool.or_true, Bool.false_or, Bool.true_or, Bool.false_and, Bool.true_and, encB, wipS_mk, List.foldr_cons, List.foldr_nil, con_updW, ↓ixC_ownD, ↓oIx_tup, ↓oIx_lst, ↓oIx_str, ↓lenC_ownL, ↓lenC_ownD, ↓setC_ownD, putC_adr, Own_lst_inj, Con_own_inj, updW_upd, Nat.reduceSub, Nat.sub_self, ↓itD_lst, ↓itD_tup, ↓oInt_i, ↓oCmp_i, ↓oAdd_i, ↓oAdd_s, ↓oAdd_t, ↓oAdd_l, ↓oNeg_i, ↓o1I_i, ↓o2I_i, ↓oSl_t, ↓oSl_l, ↓oList_t, ↓oList_l, ↓oTuple_t, ↓oTuple_l, ↓oIn_t, ↓oIn_l, ↓oIsN_n, ↓ixC_ownLi, ↓setC_ownLi, ixN20, ixN21, ex_int1, ex_int2, ↓pSet_eq, ↓ixK_tup, ↓ixK_lst, ↓ixK_str, ↓ixK_dct, ↓lenK_tup, ↓lenK_lst, ↓lenK_str, ↓pSetO_eq, ↓pPar_eq, ↓kPar_mk, ↓pVarV0, ↓pVarV1, ↓pVarL0, ↓pVarL1, ↓pVarD0, ↓pVarD1, ↓pkVarV0, ↓pkVarV1, ↓pkVarO0, ↓pkVarO1, ↓kSetN0, ↓kSetN1, ↓kSetO_N0, ↓kSetO_N1, ↓pgNameN0, ↓pgNameN1, ↓ixS0, ↓ixS1, ↓lenS0, ↓lenS1, ↓setS0, ↓setS1, ↓conS0, ↓conS1, ↓putS0, ↓putS1]
    have gm := good_tup hv
    by_cases h4 : xs.length = 4
    · match xs, h4 with
      | [a, b, c, s], _ =>
        try simp only [↓pC, ↓pOp, ↓pUn, ↓pSl, ↓pPart, ↓pNil, ↓pCons, ↓pTup, ↓pLst, ↓pCallB, ↓pTest, ↓pNot, ↓pAnd, ↓pOr, ↓pAndV, ↓pOrV, ↓pNotV, ↓pIf, ↓pNext, ↓pSeq, ↓pBreak, ↓pCont, ↓pDrop, ↓pRet, ↓pRetN, ↓pIfS, ↓pgNil, ↓pgCons, ↓pgTup, ↓pAsg, ↓pRaise, ↓pCall, ↓pIter, ↓pFor, ↓pLc, ↓pYes, ↓pkOf, ↓pIxK, ↓pTabG, ↓pLenK, ↓pChain, ↓pStore, ↓pAppend, ↓pPop, ↓poLst, ↓poDct, ↓pNewW, ↓pRng1, ↓pRng2, ↓pTry, ↓pTryAs, ↓oEq, ↓oNe, ↓oLen, ↓oSum, ↓oAll, ↓oAny, ↓oIsi, start0, List.map_cons, List.map_nil, List.length_cons, List.length_nil, List.cons_append, List.nil_append, List.getElem?_cons_zero, List.getElem?_cons_succ, List.set_cons_zero, List.set_cons_succ, List.replicate, D.bl.injEq, D.int.injEq, D.str.injEq, D.tup.injEq, D.lst.injEq, exists_eq_left', exists_eq_left, Option.some.injEq, Bool.false_eq_true, if_true, if_false, true_and, and_true, false_and, and_false, isi_int, isi_bool, isi_str, isi_tuple, isi_list, isiT_int, isiT_bool, isiT_str, isiT_tuple, isiT_list, Bool.not_true, Bool.not_false, dat_non, dat_bl, dat_int, dat_str, dat_tup, dat_lst, isInt_non, isInt_bl, isInt_int, isInt_str, isInt_tup, isInt_lst, isBool_non, isBool_bl, isBool_int, isBool_str, isBool_tup, isBool_lst, isStr_non, isStr_bl, isStr_int, isStr_str, isStr_tup, isStr_lst, isTup_non, isTup_bl, isTup_int, isTup_str, isTup_tup, isTup_lst, isLst_non, isLst_bl, isLst_int, isLst_str, isLst_tup, isLst_lst, Nat.reduceAdd, Nat.zero_add, sz_0, sz_1, sz_2, sz_3, sz_4, sz_5, sz_6, sz_7, sz_8, sz_9, sz_10, sz_11, sz_12, List.any_cons, List.any_nil, eqD_tup, eqD_str, eqD_int, eqDs_cons, eqDs_nil, eqDs_cn, eqDs_nc, Bool.or_false, Bool.and_true, at0, at1, at2, at3, at4, good_int, good_bl, good_nil, good_nilL, good_non, eqDs_nil_r, eqDs_nil_l, List.isEmpty_nil, List.isEmpty_cons, Bool.and_false, Bool.or_true, Bool.false_or, Bool.true_or, Bool.false_and, Bool.true_and, encB, wipS_mk, List.foldr_cons, List.foldr_nil, con_updW, ↓ixC_ownD, ↓oIx_tup, ↓oIx_lst, ↓oIx_str, ↓lenC_ownL, ↓lenC_ownD, ↓setC_ownD, putC_adr, Own_lst_inj, Con_own_inj, updW_upd, Nat.reduceSub, Nat.sub_self, ↓itD_lst, ↓itD_tup, ↓oInt_i, ↓oCmp_i, ↓oAdd_i, ↓oAdd_s, ↓oAdd_t, ↓oAdd_l, ↓oNeg_i, ↓o1I_i, ↓o2I_i, ↓oSl_t, ↓oSl_l, ↓oList_t, ↓oList_l, ↓oTuple_t, ↓oTuple_l, ↓oIn_t, ↓oIn_l, ↓oIsN_n, ↓ixC_ownLi, ↓setC_ownLi, ixN20, ixN21, ex_int1, ex_int2, ↓pSet_eq, ↓ixK_tup, ↓ixK_lst, ↓ixK_str, ↓ixK_dct, ↓lenK_tup, ↓lenK_lst, ↓lenK_str, ↓pSetO_eq, ↓pPar_eq, ↓kPar_mk, ↓pVarV0, ↓pVarV1, ↓pVarL0, ↓pVarL1, ↓pVarD0, ↓pVarD1, ↓pkVarV0, ↓pkVarV1, ↓pkVarO0, ↓pkVarO1, ↓kSetN0, ↓kSetN1, ↓kSetO_N0, ↓kSetO_N1, ↓pgNameN0, ↓pgNameN1, ↓ixS0, ↓ixS1, ↓lenS0, ↓lenS1, ↓setS0, ↓setS1, ↓conS0, ↓conS1, ↓putS0, ↓putS1]
        refine ite2 (fun z => absurd z (by decide +kernel)) (fun _ => ?_)
        rw [show (3 : Int) = ((3 : Nat) : Int) from rfl, cut_to _ _ (by simp)]
        refine lcW_map (f := fun v => .bl (isNum v 0 8)) _ _ (fun y hy Q' hQ' => ?_) (by show _ ≤ 2 ^ 24; simp) ?_
        · try simp only [↓pC, ↓pOp, ↓pUn, ↓pSl, ↓pPart, ↓pNil, ↓pCons, ↓pTup, ↓pLst, ↓pCallB, ↓pTest, ↓pNot, ↓pAnd, ↓pOr, ↓pAndV, ↓pOrV, ↓pNotV, ↓pIf, ↓pNext, ↓pSeq, ↓pBreak, ↓pCont, ↓pDrop, ↓pRet, ↓pRetN, ↓pIfS, ↓pgNil, ↓pgCons, ↓pgTup, ↓pAsg, ↓pRaise, ↓pCall, ↓pIter, ↓pFor, ↓pLc, ↓pYes, ↓pkOf, ↓pIxK, ↓pTabG, ↓pLenK, ↓pChain, ↓pStore, ↓pAppend, ↓pPop, ↓poLst, ↓poDct, ↓pNewW, ↓pRng1, ↓pRng2, ↓pTry, ↓pTryAs, ↓oEq, ↓oNe, ↓oLen, ↓oSum, ↓oAll, ↓oAny, ↓oIsi, start0, List.map_cons, List.map_nil, List.length_cons, List.length_nil, List.cons_append, List.nil_append, List.getElem?_cons_zero, List.getElem?_cons_succ, List.set_cons_zero, List.set_cons_succ, List.replicate, D.bl.injEq, D.int.injEq, D.str.injEq, D.tup.injEq, D.lst.injEq, exists_eq_left', exists_eq_left, Option.some.injEq, Bool.false_eq_true, if_true, if_false, true_and, and_true, false_and, and_false, isi_int, isi_bool, isi_str, isi_tuple, isi_list, isiT_int, isiT_bool, isiT_str, isiT_tuple, isiT_list, Bool.not_true, Bool.not_false, dat_non, dat_bl, dat_int, dat_str, dat_tup, dat_lst, isInt_non, isInt_bl, isInt_int, isInt_str, isInt_tup, isInt_lst, isBool_non, isBool_bl, isBool_int, isBool_str, isBool_tup, isBool_lst, isStr_non, isStr_bl, isStr_int, isStr_str, isStr_tup, isStr_lst, isTup_non, isTup_bl, isTup_int, isTup_str, isTup_tup, isTup_lst, isLst_non, isLst_bl, isLst_int, isLst_str, isLst_tup, isLst_lst, Nat.reduceAdd, Nat.zero_add, sz_0, sz_1, sz_2, sz_3, sz_4, sz_5, sz_6, sz_7, sz_8, sz_9, sz_10, sz_11, sz_12, List.any_cons, List.any_nil, eqD_tup, eqD_str, eqD_int, eqDs_cons, eqDs_nil, eqDs_cn, eqDs_nc, Bool.or_false, Bool.and_true, at0, at1, at2, at3, at4, good_int, good_bl, good_nil, good_nilL, good_non, eqDs_nil_r, eqDs_nil_l, List.isEmpty_nil, List.isEmpty_cons, Bool.and_false, Bool.or_true, Bool.false_or, Bool.true_or, Bool.false_and, Bool.true_and, encB, wipS_mk, List.foldr_cons, List.foldr_nil, con_updW, ↓ixC_ownD, ↓oIx_tup, ↓oIx_lst, ↓oIx_str, ↓lenC_ownL, ↓lenC_ownD, ↓setC_ownD, putC_adr, Own_lst_inj, Con_own_inj, updW_upd, Nat.reduceSub, Nat.sub_self, ↓itD_lst, ↓itD_tup, ↓oInt_i, ↓oCmp_i, ↓oAdd_i, ↓oAdd_s, ↓oAdd_t, ↓oAdd_l, ↓oNeg_i, ↓o1I_i, ↓o2I_i, ↓oSl_t, ↓oSl_l, ↓oList_t, ↓oList_l, ↓oTuple_t, ↓oTuple_l, ↓oIn_t, ↓oIn_l, ↓oIsN_n, ↓ixC_ownLi, ↓setC_ownLi, ixN20, ixN21, ex_int1, ex_int2, ↓pSet_eq, ↓ixK_tup, ↓ixK_lst, ↓ixK_str, ↓ixK_dct, ↓lenK_tup, ↓lenK_lst, ↓lenK_str, ↓pSetO_eq, ↓pPar_eq, ↓kPar_mk, ↓pVarV0, ↓pVarV1, ↓pVarL0, ↓pVarL1, ↓pVarD0, ↓pVarD1, ↓pkVarV0, ↓pkVarV1, ↓pkVarO0, ↓pkVarO1, ↓kSetN0, ↓kSetN1, ↓kSetO_N0, ↓kSetO_N1, ↓pgNameN0, ↓pgNameN1, ↓ixS0, ↓ixS1, ↓lenS0, ↓lenS1, ↓setS0, ↓setS1, ↓conS0, ↓conS1, ↓putS0, ↓putS1]
          exact ⟨y, _, _, rfl, good_dat (gm y (List.mem_of_mem_take hy)), hQ' _ rfl⟩
        · try simp only [↓pC, ↓pOp, ↓pUn, ↓pSl, ↓pPart, ↓pNil, ↓pCons, ↓pTup, ↓pLst, ↓pCallB, ↓pTest, ↓pNot, ↓pAnd, ↓pOr, ↓pAndV, ↓pOrV, ↓pNotV, ↓pIf, ↓pNext, ↓pSeq, ↓pBreak, ↓pCont, ↓pDrop, ↓pRet, ↓pRetN, ↓pIfS, ↓pgNil, ↓pgCons, ↓pgTup, ↓pAsg, ↓pRaise, ↓pCall, ↓pIter, ↓pFor, ↓pLc, ↓pYes, ↓pkOf, ↓pIxK, ↓pTabG, ↓pLenK, ↓pChain, ↓pStore, ↓pAppend, ↓pPop, ↓poLst, ↓poDct, ↓pNewW, ↓pRng1, ↓pRng2, ↓pTry, ↓pTryAs, ↓oEq, ↓oNe, ↓oLen, ↓oSum, ↓oAll, ↓oAny, ↓oIsi, start0, List.map_cons, List.map_nil, List.length_cons, List.length_nil, List.cons_append, List.nil_append, List.getElem?_cons_zero, List.getElem?_cons_succ, List.set_cons_zero, List.set_cons_succ, List.replicate, D.bl.injEq, D.int.injEq, D.str.injEq, D.tup.injEq, D.lst.injEq, exists_eq_left', exists_eq_left, Option.some.injEq, Bool.false_eq_true, if_true, if_false, true_and, and_true, false_and, and_false, isi_int, isi_bool, isi_str, isi_tuple, isi_list, isiT_int, isiT_bool, isiT_str, isiT_tuple, isiT_list, Bool.not_true, Bool.not_false, dat_non, dat_bl, dat_int, dat_str, dat_tup, dat_lst, isInt_non, isInt_bl, isInt_int, isInt_str, isInt_tup, isInt_lst, isBool_non, isBool_bl, isBool_int, isBool_str, isBool_tup, isBool_lst, isStr_non, isStr_bl, isStr_int, isStr_str, isStr_tup, isStr_lst, isTup_non, isTup_bl, isTup_int, isTup_str, isTup_tup, isTup_lst, isLst_non, isLst_bl, isLst_int, isLst_str, isLst_tup, isLst_lst, Nat.reduceAdd, Nat.zero_add, sz_0, sz_1, sz_2, sz_3, sz_4, sz_5, sz_6, sz_7, sz_8, sz_9, sz_10, sz_11, sz_12, List.any_cons, List.any_nil, eqD_tup, eqD_str, eqD_int, eqDs_cons, eqDs_nil, eqDs_cn, eqDs_nc, Bool.or_false, Bool.and_true, at0, at1, at2, at3, at4, good_int, good_bl, good_nil, good_nilL, good_non, eqDs_nil_r, eqDs_nil_l, List.isEmpty_nil, List.isEmpty_cons, Bool.and_false, Bool.or_true, Bool.false_or, Bool.true_or, Bool.false_and, Bool.true_and, encB, wipS_mk, List.foldr_cons, List.foldr_nil, con_updW, ↓ixC_ownD, ↓oIx_tup, ↓oIx_lst, ↓oIx_str, ↓lenC_ownL, ↓lenC_ownD, ↓setC_ownD, putC_adr, Own_lst_inj, Con_own_inj, updW_upd, Nat.reduceSub, Nat.sub_self, ↓itD_lst, ↓itD_tup, ↓oInt_i, ↓oCmp_i, ↓oAdd_i, ↓oAdd_s, ↓oAdd_t, ↓oAdd_l, ↓oNeg_i, ↓o1I_i, ↓o2I_i, ↓oSl_t, ↓oSl_l, ↓oList_t, ↓oList_l, ↓oTuple_t, ↓oTuple_l, ↓oIn_t, ↓oIn_l, ↓oIsN_n, ↓ixC_ownLi, ↓setC_ownLi, ixN20, ixN21, ex_int1, ex_int2, ↓pSet_eq, ↓ixK_tup, ↓ixK_lst, ↓ixK_str, ↓ixK_dct, ↓lenK_tup, ↓lenK_lst, ↓lenK_str, ↓pSetO_eq, ↓pPar_eq, ↓kPar_mk, ↓pVarV0, ↓pVarV1, ↓pVarL0, ↓pVarL1, ↓pVarD0, ↓pVarD1, ↓pkVarV0, ↓pkVarV1, ↓pkVarO0, ↓pkVarO1, ↓kSetN0, ↓kSetN1, ↓kSetO_N0, ↓kSetO_N1, ↓pgNameN0, ↓pgNameN1, ↓ixS0, ↓ixS1, ↓lenS0, ↓lenS1, ↓setS0, ↓setS1, ↓conS0, ↓conS1, ↓putS0, ↓putS1]
          refine ⟨_, [isNum a 0 8, isNum b 0 8, isNum c 0 8], rfl, rfl, ?_⟩
          have f1 : isNum a 0 8 = true → ∃ n, inR 0 8 n = true ∧ a = .int n := isNum_iff.mp
          have f2 : isNum b 0 8 = true → ∃ n, inR 0 8 n = true ∧ b = .int n := isNum_iff.mp
          have f3 : isNum c 0 8 = true → ∃ n, inR 0 8 n = true ∧ c = .int n := isNum_iff.mp
          cases n1 : isNum a 0 8 with
          | false =>
            refine ite2 (fun _ => hq false ?_) (fun z => absurd z (by simp))
            unfold isNum at n1
            unfold isLoop
            split
            · rename_i e
              cases e
              simp only at n1
              simp [inR, n1]
            · rfl
          | true =>
          cases n2 : isNum b 0 8 with
          | false =>
            refine ite2 (fun _ => hq false ?_) (fun z => absurd z (by simp))
            unfold isNum at n2
            unfold isLoop
            split
            · rename_i e
              cases e
              simp only at n2
              simp [inR, n2]
            · rfl
          | true =>
          cases n3 : isNum c 0 8 with
          | false =>
            refine ite2 (fun _ => hq false ?_) (fun z => absurd z (by simp))
            unfold isNum at n3
            unfold isLoop
            split
            · rename_i e
              cases e
              simp only at n3
              simp [inR, n3]
            · rfl
          | true =>
          obtain ⟨a, e1, rfl⟩ := f1 n1
          obtain ⟨b, e2, rfl⟩ := f2 n2
          obtain ⟨c, e3, rfl⟩ := f3 n3
          refine ite2 (fun z => absurd z (by simp)) (fun _ => ?_)
          try simp only [↓pC, ↓pOp, ↓pUn, ↓pSl, ↓pPart, ↓pNil, ↓pCons, ↓pTup, ↓pLst, ↓pCallB, ↓pTest, ↓pNot, ↓pAnd, ↓pOr, ↓pAndV, ↓pOrV, ↓pNotV, ↓pIf, ↓pNext, ↓pSeq, ↓pBreak, ↓pCont, ↓pDrop, ↓pRet, ↓pRetN, ↓pIfS, ↓pgNil, ↓pgCons, ↓pgTup, ↓pAsg, ↓pRaise, ↓pCall, ↓pIter, ↓pFor, ↓pLc, ↓pYes, ↓pkOf, ↓pIxK, ↓pTabG, ↓pLenK, ↓pChain, ↓pStore, ↓pAppend, ↓pPop, ↓poLst, ↓poDct, ↓pNewW, ↓pRng1, ↓pRng2, ↓pTry, ↓pTryAs, ↓oEq, ↓oNe, ↓oLen, ↓oSum, ↓oAll, ↓oAny, ↓oIsi, start0, List.map_cons, List.map_nil, List.length_cons, List.length_nil, List.cons_append, List.nil_append, List.getElem?_cons_zero, List.getElem?_cons_succ, List.set_cons_zero, List.set_cons_succ, List.replicate, D.bl.injEq, D.int.injEq, D.str.injEq, D.tup.injEq, D.lst.injEq, exists_eq_left', exists_eq_left, Option.some.injEq, Bool.false_eq_true, if_true, if_false, true_and, and_true, false_and, and_false, isi_int, isi_bool, isi_str, isi_tuple, isi_list, isiT_int, isiT_bool, isiT_str, isiT_tuple, isiT_list, Bool.not_true, Bool.not_false, dat_non, dat_bl, dat_int, dat_str, dat_tup, dat_lst, isInt_non, isInt_bl, isInt_int, isInt_str, isInt_tup, isInt_lst, isBool_non, isBool_bl, isBool_int, isBool_str, isBool_tup, isBool_lst, isStr_non, isStr_bl, isStr_int, isStr_str, isStr_tup, isStr_lst, isTup_non, isTup_bl, isTup_int, isTup_str, isTup_tup, isTup_lst, isLst_non, isLst_bl, isLst_int, isLst_str, isLst_tup, isLst_lst, Nat.reduceAdd, Nat.zero_add, sz_0, sz_1, sz_2, sz_3, sz_4, sz_5, sz_6, sz_7, sz_8, sz_9, sz_10, sz_11, sz_12, List.any_cons, List.any_nil, eqD_tup, eqD_str, eqD_int, eqDs_cons, eqDs_nil, eqDs_cn, eqDs_nc, Bool.or_false, Bool.and_true, at0, at1, at2, at3, at4, good_int, good_bl, good_nil, good_nilL, good_non, eqDs_nil_r, eqDs_nil_l, List.isEmpty_nil, List.isEmpty_cons, Bool.and_false, Bool.or_true, Bool.false_or, Bool.true_or, Bool.false_and, Bool.true_and, encB, wipS_mk, List.foldr_cons, List.foldr_nil, con_updW, ↓ixC_ownD, ↓oIx_tup, ↓oIx_lst, ↓oIx_str, ↓lenC_ownL, ↓lenC_ownD, ↓setC_ownD, putC_adr, Own_lst_inj, Con_own_inj, updW_upd, Nat.reduceSub, Nat.sub_self, ↓itD_lst, ↓itD_tup, ↓oInt_i, ↓oCmp_i, ↓oAdd_i, ↓oAdd_s, ↓oAdd_t, ↓oAdd_l, ↓oNeg_i, ↓o1I_i, ↓o2I_i, ↓oSl_t, ↓oSl_l, ↓oList_t, ↓oList_l, ↓oTuple_t, ↓oTuple_l, ↓oIn_t, ↓oIn_l, ↓oIsN_n, ↓ixC_ownLi, ↓setC_ownLi, ixN20, ixN21, ex_int1, ex_int2, ↓pSet_eq, ↓ixK_tup, ↓ixK_lst, ↓ixK_str, ↓ixK_dct, ↓lenK_tup, ↓lenK_lst, ↓lenK_str, ↓pSetO_eq, ↓pPar_eq, ↓kPar_mk, ↓pVarV0, ↓pVarV1, ↓pVarL0, ↓pVarL1, ↓pVarD0, ↓pVarD1, ↓pkVarV0, ↓pkVarV1, ↓pkVarO0, ↓pkVarO1, ↓kSetN0, ↓kSetN1, ↓kSetO_N0, ↓kSetO_N1, ↓pgNameN0, ↓pgNameN1, ↓ixS0, ↓ixS1, ↓lenS0, ↓lenS1, ↓setS0, ↓setS1, ↓conS0, ↓conS1, ↓putS0, ↓putS1]
          refine ite2 (fun z => hq false ?_) (fun z => ?_)
          · simp only [decide_eq_true_eq] at z
            unfold isLoop
            split
            · rename_i e
              cases e
              simp [Int.not_le.mpr z]
            · rfl
          · have z : a ≤ b := by simpa using z
            refine ⟨s, rfl, s, rfl, gm s (by simp), _, rfl, ?_⟩
            refine ite2 (fun z2 => ?_) (fun z2 => hq false ?_)
            · obtain ⟨t, ht, rfl⟩ := isBod_iff.mp z2
              refine ⟨encB t, rfl, t, rfl, ht, ?_⟩
              try simp only [↓pC, ↓pOp, ↓pUn, ↓pSl, ↓pPart, ↓pNil, ↓pCons, ↓pTup, ↓pLst, ↓pCallB, ↓pTest, ↓pNot, ↓pAnd, ↓pOr, ↓pAndV, ↓pOrV, ↓pNotV, ↓pIf, ↓pNext, ↓pSeq, ↓pBreak, ↓pCont, ↓pDrop, ↓pRet, ↓pRetN, ↓pIfS, ↓pgNil, ↓pgCons, ↓pgTup, ↓pAsg, ↓pRaise, ↓pCall, ↓pIter, ↓pFor, ↓pLc, ↓pYes, ↓pkOf, ↓pIxK, ↓pTabG, ↓pLenK, ↓pChain, ↓pStore, ↓pAppend, ↓pPop, ↓poLst, ↓poDct, ↓pNewW, ↓pRng1, ↓pRng2, ↓pTry, ↓pTryAs, ↓oEq, ↓oNe, ↓oLen, ↓oSum, ↓oAll, ↓oAny, ↓oIsi, start0, List.map_cons, List.map_nil, List.length_cons, List.length_nil, List.cons_append, List.nil_append, List.getElem?_cons_zero, List.getElem?_cons_succ, List.set_cons_zero, List.set_cons_succ, List.replicate, D.bl.injEq, D.int.injEq, D.str.injEq, D.tup.injEq, D.lst.injEq, exists_eq_left', exists_eq_left, Option.some.injEq, Bool.false_eq_true, if_true, if_false, true_and, and_true, false_and, and_false, isi_int, isi_bool, isi_str, isi_tuple, isi_list, isiT_int, isiT_bool, isiT_str, isiT_tuple, isiT_list, Bool.not_true, Bool.not_false, dat_non, dat_bl, dat_int, dat_str, dat_tup, dat_lst, isInt_non, isInt_bl, isInt_int, isInt_str, isInt_tup, isInt_lst, isBool_non, isBool_bl, isBool_int, isBool_str, isBool_tup, isBool_lst, isStr_non, isStr_bl, isStr_int, isStr_str, isStr_tup, isStr_lst, isTup_non, isTup_bl, isTup_int, isTup_str, isTup_tup, isTup_lst, isLst_non, isLst_bl, isLst_int, isLst_str, isLst_tup, isLst_lst, Nat.reduceAdd, Nat.zero_add, sz_0, sz_1, sz_2, sz_3, sz_4, sz_5, sz_6, sz_7, sz_8, sz_9, sz_10, sz_11, sz_12, List.any_cons, List.any_nil, eqD_tup, eqD_str, eqD_int, eqDs_cons, eqDs_nil, eqDs_cn, eqDs_nc, Bool.or_false, Bool.and_true, at0, at1, at2, at3, at4, good_int, good_bl, good_nil, good_nilL, good_non, eqDs_nil_r, eqDs_nil_l, List.isEmpty_nil, List.isEmpty_cons, Bool.and_false, Bool.or_true, Bool.false_or, Bool.true_or, Bool.false_and, Bool.true_and, encB, wipS_mk, List.foldr_cons, List.foldr_nil, con_updW, ↓ixC_ownD, ↓oIx_tup, ↓oIx_lst, ↓oIx_str, ↓lenC_ownL, ↓lenC_ownD, ↓setC_ownD, putC_adr, Own_lst_inj, Con_own_inj, updW_upd, Nat.reduceSub, Nat.sub_self, ↓itD_lst, ↓itD_tup, ↓oInt_i, ↓oCmp_i, ↓oAdd_i, ↓oAdd_s, ↓oAdd_t, ↓oAdd_l, ↓oNeg_i, ↓o1I_i, ↓o2I_i, ↓oSl_t, ↓oSl_l, ↓oList_t, ↓oList_l, ↓oTuple_t, ↓oTuple_l, ↓oIn_t, ↓oIn_l, ↓oIsN_n, ↓ixC_ownLi, ↓setC_ownLi, ixN20, ixN21, ex_int1, ex_int2, ↓pSet_eq, ↓ixK_tup, ↓ixK_lst, ↓ixK_str, ↓ixK_dct, ↓lenK_tup, ↓lenK_lst, ↓lenK_str, ↓pSetO_eq, ↓pPar_eq, ↓kPar_mk, ↓pVarV0, ↓pVarV1, ↓pVarL0, ↓pVarL1, ↓pVarD0, ↓pVarD1, ↓pkVarV0, ↓pkVarV1, ↓pkVarO0, ↓pkVarO1, ↓kSetN0, ↓kSetN1, ↓kSetO_N0, ↓kSetO_N1, ↓pgNameN0, ↓pgNameN1, ↓ixS0, ↓ixS1, ↓lenS0, ↓lenS1, ↓setS0, ↓setS1, ↓conS0, ↓conS1, ↓putS0, ↓putS1]
              refine hq _ ?_
              unfold encB at z2
              rw [Bool.eq_iff_iff]
              simp only [encB, isLoop, e1, e2, e3, z, z2, szD_B ht, List.length_map, Bool.and_self, decide_true, Bool.true_and, decide_eq_true_eq]
              omega
            · unfold isLoop
              split
              · rename_i e
                cases e
                simp [z2]
              · rfl
    · refine ite2 (fun _ => hq false ?_) (fun z => absurd z ?_)
      · unfold isLoop
        split
        · rename_i e; cases e; simp at h4
        · rfl
      · simp; omega
  | dct _ _ => simp [D.good, D.plain] at hv
  | adr _ => simp [D.good, D.plain] at hv
  | ty _ => simp [D.good, D.plain] at hv
  | _ =>
    try simp only [↓pC, ↓pOp, ↓pUn, ↓pSl, ↓pPart, ↓pNil, ↓pCons, ↓pTup, ↓pLst, ↓pCallB, ↓pTest, ↓pNot, ↓pAnd, ↓pOr, ↓pAndV, ↓pOrV, ↓pNotV, ↓pIf, ↓pNext, ↓pSeq, ↓pBreak, ↓pCont, ↓pDrop, ↓pRet, ↓pRetN, ↓pIfS, ↓pgNil, ↓pgCons, ↓pgTup, ↓pAsg, ↓pRaise, ↓pCall, ↓pIter, ↓pFor, ↓pLc, ↓pYes, ↓pkOf, ↓pIxK, ↓pTabG, ↓pLenK, ↓pChain, ↓pStore, ↓pAppend, ↓pPop, ↓poLst, ↓poDct, ↓pNewW, ↓pRng1, ↓pRng2, ↓pTry, ↓pTryAs, ↓oEq, ↓oNe, ↓oLen, ↓oSum, ↓oAll, ↓oAny, ↓oIsi, start0, List.map_cons, List.map_nil, List.length_cons, List.length_nil, List.cons_append, List.nil_append, List.getElem?_cons_zero, List.getElem?_cons_succ, List.set_cons_zero, List.set_cons_succ, List.replicate, D.bl.injEq, D.int.injEq, D.str.injEq, D.tup.injEq, D.lst.injEq, exists_eq_left', exists_eq_left, Option.some.injEq, Bool.false_eq_true, if_true, if_false, true_and, and_true, false_and, and_false, isi_int, isi_bool, isi_str, isi_tuple, isi_list, isiT_int, isiT_bool, isiT_str, isiT_tuple, isiT_list, Bool.not_true, Bool.not_false, dat_non, dat_bl, dat_int, dat_str, dat_tup, dat_lst, isInt_non, isInt_bl, isInt_int, isInt_str, isInt_tup, isInt_lst, isBool_non, isBool_bl, isBool_int, isBool_str, isBool_tup, isBool_lst, isStr_non, isStr_bl, isStr_int, isStr_str, isStr_tup, isStr_lst, isTup_non, isTup_bl, isTup_int, isTup_str, isTup_tup, isTup_lst, isLst_non, isLst_bl, isLst_int, isLst_str, isLst_tup, isLst_lst, Nat.reduceAdd, Nat.zero_add, sz_0, sz_1, sz_2, sz_3, sz_4, sz_5, sz_6, sz_7, sz_8, sz_9, sz_10, sz_11, sz_12, List.any_cons, List.any_nil, eqD_tup, eqD_str, eqD_int, eqDs_cons, eqDs_nil, eqDs_cn, eqDs_nc, Bool.or_false, Bool.and_true, at0, at1, at2, at3, at4, good_int, good_bl, good_nil, good_nilL, good_non, eqDs_nil_r, eqDs_nil_l, List.isEmpty_nil, List.isEmpty_cons, Bool.and_false, Bool.or_true, Bool.false_or, Bool.true_or, Bool.false_and, Bool.true_and, encB, wipS_mk, List.foldr_cons, List.foldr_nil, con_updW, ↓ixC_ownD, ↓oIx_tup, ↓oIx_lst, ↓oIx_str, ↓lenC_ownL, ↓lenC_ownD, ↓setC_ownD, putC_adr, Own_lst_inj, Con_own_inj, updW_upd, Nat.reduceSub, Nat.sub_self, ↓itD_lst, ↓itD_tup, ↓oInt_i, ↓oCmp_i, ↓oAdd_i, ↓oAdd_s, ↓oAdd_t, ↓oAdd_l, ↓oNeg_i, ↓o1I_i, ↓o2I_i, ↓oSl_t, ↓oSl_l, ↓oList_t, ↓oList_l, ↓oTuple_t, ↓oTuple_l, ↓oIn_t, ↓oIn_l, ↓oIsN_n, ↓ixC_ownLi, ↓setC_ownLi, ixN20, ixN21, ex_int1, ex_int2, ↓pSet_eq, ↓ixK_tup, ↓ixK_lst, ↓ixK_str, ↓ixK_dct, ↓lenK_tup, ↓lenK_lst, ↓lenK_str, ↓pSetO_eq, ↓pPar_eq, ↓kPar_mk, ↓pVarV0, ↓pVarV1, ↓pVarL0, ↓pVarL1, ↓pVarD0, ↓pVarD1, ↓pkVarV0, ↓pkVarV1, ↓pkVarO0, ↓pkVarO1, ↓kSetN0, ↓kSetN1, ↓kSetO_N0, ↓kSetO_N1, ↓pgNameN0, ↓pgNameN1, ↓ixS0, ↓ixS1, ↓lenS0, ↓lenS1, ↓setS0, ↓setS1, ↓conS0, ↓conS1, ↓putS0, ↓putS1]
    exact q
abbrev s_need_loop : Stmt := topS 18
abbrev N_need_loop : List Str := ["value"]
theorem sc_need_loop : FnScope N_need_loop ["value"] (defScope s_need_loop) := ⟨rfl, rfl, rfl, by decide +kernel, rfl, by decide +kernel, by decide +kernel⟩
theorem ok_need_loop  {k : Nat} {C_InvalidLoop : Addr} (T : TopD K mg "need_loop" ["value"] s_need_loop) (c_is_loop : CallF P w K mg base "is_loop" 1 k (φ_is_loop)) (x_InvalidLoop : ExC K mg "InvalidLoop" C_InvalidLoop)  :
    CallF P w K mg base "need_loop" 1 (k + 1) (φ_need_loop C_InvalidLoop) := by
  refine call_of (N := N_need_loop) (k := k) T sc_need_loop fun f cdv A outer s H E hr => ⟨_, (pmss_one (pms_if (pmt_not (pmt_val (pm_callF c_is_loop hr (by rfl) (pma_cons (pm_var (pv 0)) pma_nil)))) (pmss_one (pms_raiseOwn (by rfl) x_InvalidLoop (by rfl))) pmss_nil)), ?_⟩
  rintro ds Wo Q E' - ⟨v, rfl, hv, q1, q2⟩
  try simp only [↓pC, ↓pOp, ↓pUn, ↓pSl, ↓pPart, ↓pNil, ↓pCons, ↓pTup, ↓pLst, ↓pCallB, ↓pTest, ↓pNot, ↓pAnd, ↓pOr, ↓pAndV, ↓pOrV, ↓pNotV, ↓pIf, ↓pNext, ↓pSeq, ↓pBreak, ↓pCont, ↓pDrop, ↓pRet, ↓pRetN, ↓pIfS, ↓pgNil, ↓pgCons, ↓pgTup, ↓pAsg, ↓pRaise, ↓pCall, ↓pIter, ↓pFor, ↓pLc, ↓pYes, ↓pkOf, ↓pIxK, ↓pTabG, ↓pLenK, ↓pChain, ↓pStore, ↓pAppend, ↓pPop, ↓poLst, ↓poDct, ↓pNewW, ↓pRng1, ↓pRng2, ↓pTry, ↓pTryAs, ↓oEq, ↓oNe, ↓oLen, ↓oSum, ↓oAll, ↓oAny, ↓oIsi, start0, List.map_cons, List.map_nil, List.length_cons, List.length_nil, List.cons_append, List.nil_append, List.getElem?_cons_zero, List.getElem?_cons_succ, List.set_cons_zero, List.set_cons_succ, List.replicate, D.bl.injEq, D.int.injEq, D.str.injEq, D.tup.injEq, D.lst.injEq, exists_eq_left', exists_eq_left, Option.some.injEq, Bool.false_eq_true, if_true, if_false, true_and, and_true, false_and, and_false, isi_int, isi_bool, isi_str, isi_tuple, isi_list, isiT_int, isiT_bool, isiT_str, isiT_tuple, isiT_list, Bool.not_true, Bool.not_false, dat_non, dat_bl, dat_int, dat_str, dat_tup, dat_lst, isInt_non, isInt_bl, isInt_int, isInt_str, isInt_tup, isInt_lst, isBool_non, isBool_bl, isBool_int, isBool_str, isBool_tup, isBool_lst, isStr_non, isStr_bl, isStr_int, isStr_str, isStr_tup, isStr_lst, isTup_non, isTup_bl, isTup_int, isTup_str, isTup_tup, isTup_lst, isLst_non, isLst_bl, isLst_int, isLst_str, isLst_tup, isLst_lst, Nat.reduceAdd, Nat.zero_add, sz_0, sz_1, sz_2, sz_3, sz_4, sz_5, sz_6, sz_7, sz_8, sz_9, sz_10, sz_11, sz_12, List.any_cons, List.any_nil, eqD_tup, eqD_str, eqD_int, eqDs_cons, eqDs_nil, eqDs_cn, eqDs_nc, Bool.or_false, Bool.and_true, at0, at1, at2, at3, at4, good_int, good_bl, good_nil, good_nilL, good_non, eqDs_nil_r, eqDs_nil_l, List.isEmpty_nil, List.isEmpty_cons, Bool.and_false, Bool.or_true, Bool.false_or, Bool.true_or, Bool.false_and, Bool.true_and, encB, wipS_mk, List.foldr_cons, List.foldr_nil, con_updW, ↓ixC_ownD, ↓oIx_tup, ↓oIx_lst, ↓oIx_str, ↓lenC_ownL, ↓lenC_ownD, ↓setC_ownD, putC_adr, Own_lst_inj, Con_own_inj, updW_upd, Nat.reduceSub, Nat.sub_self, ↓itD_lst, ↓itD_tup, ↓oInt_i, ↓oCmp_i, ↓oAdd_i, ↓oAdd_s, ↓oAdd_t, ↓oAdd_l, ↓oNeg_i, ↓o1I_i, ↓o2I_i, ↓oSl_t, ↓oSl_l, ↓oList_t, ↓oList_l, ↓oTuple_t, ↓oTuple_l, ↓oIn_t, ↓oIn_l, ↓oIsN_n, ↓ixC_ownLi, ↓setC_ownLi, ixN20, ixN21, ex_int1, ex_int2, ↓pSet_eq, ↓ixK_tup, ↓ixK_lst, ↓ixK_str, ↓ixK_dct, ↓lenK_tup, ↓lenK_lst, ↓lenK_str, ↓pSetO_eq, ↓pPar_eq, ↓kPar_mk, ↓pVarV0, ↓pVarL0, ↓pVarD0, ↓pkVarV0, ↓pkVarO0, ↓kSetN0, ↓kSetO_N0, ↓pgNameN0, ↓ixS0, ↓lenS0, ↓setS0, ↓conS0, ↓putS0]
  refine ⟨v, rfl, hv, _, rfl, ?_⟩
  cases h : isLoop v with
  | true => exact q1 h
  | false => exact q2 h
abbrev s_need_statement_number : Stmt := topS 19
abbrev N_need_statement_number : List Str := ["loop", "value"]
theorem sc_need_statement_number : FnScope N_need_statement_number ["loop", "value"] (defScope s_need_statement_number) := ⟨rfl, rfl, rfl, by decide +kernel, rfl, by decide +kernel, by decide +kernel⟩
theorem ok_need_statement_number  {k : Nat} {C_InvalidNumber : Addr} (T : TopD K mg "need_statement_number" ["loop", "value"] s_need_statement_number) (c_is_number : CallF P w K mg base "is_number" 3 k (φ_is_number)) (m_len : mg "len" = none) (c_listed : CallF P w K mg base "listed" 1 k (φ_listed 3)) (x_InvalidNumber : ExC K mg "InvalidNumber" C_InvalidNumber)  :
    CallF P w K mg base "need_statement_number" 2 (k + 1) (φ_need_statement_number C_InvalidNumber) := by
  refine call_of (N := N_need_statement_number) (k := k) T sc_need_statement_number fun f cdv A outer s H E hr => ⟨_, (pmss_one (pms_if (pmt_not (pmt_val (pm_callF c_is_number hr (by rfl) (pma_cons (pm_var (pv 1)) (pma_cons pm_int (pma_cons (pm_op od_sub (pm_lenK (by rfl) m_len (pk_of (pm_callF c_listed hr (by rfl) (pma_cons (pm_ixK (Room.hu1 hr) (pk_var (pv 0)) pm_int (fun _ _ => rfl)) pma_nil)))) pm_int) pma_nil)))))) (pmss_one (pms_raiseOwn (by rfl) x_InvalidNumber (by rfl))) pmss_nil)), ?_⟩
  rintro ds Wo Q E' - ⟨L, v, rfl, hL, hv, q1, q2⟩
  have hB := (okL_iff.mp hL).2.1
  try simp only [encL, ↓pC, ↓pOp, ↓pUn, ↓pSl, ↓pPart, ↓pNil, ↓pCons, ↓pTup, ↓pLst, ↓pCallB, ↓pTest, ↓pNot, ↓pAnd, ↓pOr, ↓pAndV, ↓pOrV, ↓pNotV, ↓pIf, ↓pNext, ↓pSeq, ↓pBreak, ↓pCont, ↓pDrop, ↓pRet, ↓pRetN, ↓pIfS, ↓pgNil, ↓pgCons, ↓pgTup, ↓pAsg, ↓pRaise, ↓pCall, ↓pIter, ↓pFor, ↓pLc, ↓pYes, ↓pkOf, ↓pIxK, ↓pTabG, ↓pLenK, ↓pChain, ↓pStore, ↓pAppend, ↓pPop, ↓poLst, ↓poDct, ↓pNewW, ↓pRng1, ↓pRng2, ↓pTry, ↓pTryAs, ↓oEq, ↓oNe, ↓oLen, ↓oSum, ↓oAll, ↓oAny, ↓oIsi, start0, List.map_cons, List.map_nil, List.length_cons, List.length_nil, List.cons_append, List.nil_append, List.getElem?_cons_zero, List.getElem?_cons_succ, List.set_cons_zero, List.set_cons_succ, List.replicate, D.bl.injEq, D.int.injEq, D.str.injEq, D.tup.injEq, D.lst.injEq, exists_eq_left', exists_eq_left, Option.some.injEq, Bool.false_eq_true, if_true, if_false, true_and, and_true, false_and, and_false, isi_int, isi_bool, isi_str, isi_tuple, isi_list, isiT_int, isiT_bool, isiT_str, isiT_tuple, isiT_list, Bool.not_true, Bool.not_false, dat_non, dat_bl, dat_int, dat_str, dat_tup, dat_lst, isInt_non, isInt_bl, isInt_int, isInt_str, isInt_tup, isInt_lst, isBool_non, isBool_bl, isBool_int, isBool_str, isBool_tup, isBool_lst, isStr_non, isStr_bl, isStr_int, isStr_str, isStr_tup, isStr_lst, isTup_non, isTup_bl, isTup_int, isTup_str, isTup_tup, isTup_lst, isLst_non, isLst_bl, isLst_int, isLst_str, isLst_tup, isLst_lst, Nat.reduceAdd, Nat.zero_add, sz_0, sz_1, sz_2, sz_3, sz_4, sz_5, sz_6, sz_7, sz_8, sz_9, sz_10, sz_11, sz_12, List.any_cons, List.any_nil, eqD_tup, eqD_str, eqD_int, eqDs_cons, eqDs_nil, eqDs_cn, eqDs_nc, Bool.or_false, Bool.and_true, at0, at1, at2, at3, at4, good_int, good_bl, good_nil, good_nilL, good_non, eqDs_nil_r, eqDs_nil_l, List.isEmpty_nil, List.isEmpty_cons, Bool.and_false, Bool.or_true, Bool.false_or, Bool.true_or, Bool.false_and, Bool.true_and, encB, wipS_mk, List.foldr_cons, List.foldr_nil, con_updW, ↓ixC_ownD, ↓oIx_tup, ↓oIx_lst, ↓oIx_str, ↓lenC_ownL, ↓lenC_ownD, ↓setC_ownD, putC_adr, Own_lst_inj, Con_own_inj, updW_upd, Nat.reduceSub, Nat.sub_self, ↓itD_lst, ↓itD_tup, ↓oInt_i, ↓oCmp_i, ↓oAdd_i, ↓oAdd_s, ↓oAdd_t, ↓oAdd_l, ↓oNeg_i, ↓o1I_i, ↓o2I_i, ↓oSl_t, ↓oSl_l, ↓oList_t, ↓oList_l, ↓oTuple_t, ↓oTuple_l, ↓oIn_t, ↓oIn_l, ↓oIsN_n, ↓ixC_ownLi, ↓setC_ownLi, ixN20, ixN21, ex_int1, ex_int2, ↓pSet_eq, ↓ixK_tup, ↓ixK_lst, ↓ixK_str, ↓ixK_dct, ↓lenK_tup, ↓lenK_lst, ↓lenK_str, ↓pSetO_eq, ↓pPar_eq, ↓kPar_mk, ↓pVarV0, ↓pVarV1, ↓pVarL0, ↓pVarL1, ↓pVarD0, ↓pVarD1, ↓pkVarV0, ↓pkVarV1, ↓pkVarO0, ↓pkVarO1, ↓kSetN0, ↓kSetN1, ↓kSetO_N0, ↓kSetO_N1, ↓pgNameN0, ↓pgNameN1, ↓ixS0, ↓ixS1, ↓lenS0, ↓lenS1, ↓setS0, ↓setS1, ↓conS0, ↓conS1, ↓putS0, ↓putS1]
  refine ⟨L.body, rfl, hB, ?_⟩
  try simp only [↓pC, ↓pOp, ↓pUn, ↓pSl, ↓pPart, ↓pNil, ↓pCons, ↓pTup, ↓pLst, ↓pCallB, ↓pTest, ↓pNot, ↓pAnd, ↓pOr, ↓pAndV, ↓pOrV, ↓pNotV, ↓pIf, ↓pNext, ↓pSeq, ↓pBreak, ↓pCont, ↓pDrop, ↓pRet, ↓pRetN, ↓pIfS, ↓pgNil, ↓pgCons, ↓pgTup, ↓pAsg, ↓pRaise, ↓pCall, ↓pIter, ↓pFor, ↓pLc, ↓pYes, ↓pkOf, ↓pIxK, ↓pTabG, ↓pLenK, ↓pChain, ↓pStore, ↓pAppend, ↓pPop, ↓poLst, ↓poDct, ↓pNewW, ↓pRng1, ↓pRng2, ↓pTry, ↓pTryAs, ↓oEq, ↓oNe, ↓oLen, ↓oSum, ↓oAll, ↓oAny, ↓oIsi, start0, List.map_cons, List.map_nil, List.length_cons, List.length_nil, List.cons_append, List.nil_append, List.getElem?_cons_zero, List.getElem?_cons_succ, List.set_cons_zero, List.set_cons_succ, List.replicate, D.bl.injEq, D.int.injEq, D.str.injEq, D.tup.injEq, D.lst.injEq, exists_eq_left', exists_eq_left, Option.some.injEq, Bool.false_eq_true, if_true, if_false, true_and, and_true, false_and, and_false, isi_int, isi_bool, isi_str, isi_tuple, isi_list, isiT_int, isiT_bool, isiT_str, isiT_tuple, isiT_list, Bool.not_true, Bool.not_false, dat_non, dat_bl, dat_int, dat_str, dat_tup, dat_lst, isInt_non, isInt_bl, isInt_int, isInt_str, isInt_tup, isInt_lst, isBool_non, isBool_bl, isBool_int, isBool_str, isBool_tup, isBool_lst, isStr_non, isStr_bl, isStr_int, isStr_str, isStr_tup, isStr_lst, isTup_non, isTup_bl, isTup_int, isTup_str, isTup_tup, isTup_lst, isLst_non, isLst_bl, isLst_int, isLst_str, isLst_tup, isLst_lst, Nat.reduceAdd, Nat.zero_add, sz_0, sz_1, sz_2, sz_3, sz_4, sz_5, sz_6, sz_7, sz_8, sz_9, sz_10, sz_11, sz_12, List.any_cons, List.any_nil, eqD_tup, eqD_str, eqD_int, eqDs_cons, eqDs_nil, eqDs_cn, eqDs_nc, Bool.or_false, Bool.and_true, at0, at1, at2, at3, at4, good_int, good_bl, good_nil, good_nilL, good_non, eqDs_nil_r, eqDs_nil_l, List.isEmpty_nil, List.isEmpty_cons, Bool.and_false, Bool.or_true, Bool.false_or, Bool.true_or, Bool.false_and, Bool.true_and, encB, wipS_mk, List.foldr_cons, List.foldr_nil, con_updW, ↓ixC_ownD, ↓oIx_tup, ↓oIx_lst, ↓oIx_str, ↓lenC_ownL, ↓lenC_ownD, ↓setC_ownD, putC_adr, Own_lst_inj, Con_own_inj, updW_upd, Nat.reduceSub, Nat.sub_self, ↓itD_lst, ↓itD_tup, ↓oInt_i, ↓oCmp_i, ↓oAdd_i, ↓oAdd_s, ↓oAdd_t, ↓oAdd_l, ↓oNeg_i, ↓o1I_i, ↓o2I_i, ↓oSl_t, ↓oSl_l, ↓oList_t, ↓oList_l, ↓oTuple_t, ↓oTuple_l, ↓oIn_t, ↓oIn_l, ↓oIsN_n, ↓ixC_ownLi, ↓setC_ownLi, ixN20, ixN21, ex_int1, ex_int2, ↓pSet_eq, ↓ixK_tup, ↓ixK_lst, ↓ixK_str, ↓ixK_dct, ↓lenK_tup, ↓lenK_lst, ↓lenK_str, ↓pSetO_eq, ↓pPar_eq, ↓kPar_mk, ↓pVarV0, ↓pVarV1, ↓pVarL0, ↓pVarL1, ↓pVarD0, ↓pVarD1, ↓pkVarV0, ↓pkVarV1, ↓pkVarO0, ↓pkVarO1, ↓kSetN0, ↓kSetN1, ↓kSetO_N0, ↓kSetO_N1, ↓pgNameN0, ↓pgNameN1, ↓ixS0, ↓ixS1, ↓lenS0, ↓lenS1, ↓setS0, ↓setS1, ↓conS0, ↓conS1, ↓putS0, ↓putS1]
  refine ⟨v, _, _, rfl, hv, _, rfl, ?_⟩
  rw [List.length_map]
  cases h : isNum v 0 ((listedB L.body).length - 1) with
  | true => exact q1 h
  | false => exact q2 h
abbrev s_body_without : Stmt := topS 20
abbrev N_body_without : List Str := ["body", "first", "gone", "found", "statement", "parts", "here", "inner"]
theorem sc_body_without : FnScope N_body_without ["body", "first", "gone"] (defScope s_body_without) := ⟨rfl, rfl, rfl, by decide +kernel, rfl, by decide +kernel, by decide +kernel⟩
theorem ok_body_without {d : Nat} {k : Nat}  (T : TopD K mg "body_without" ["body", "first", "gone"] s_body_without) (c_bodies_of : CallF P w K mg base "bodies_of" 1 k (φ_bodies_of)) (m_len : mg "len" = none) (c_listed : CallF P w K mg base "listed" 1 k (φ_listed (d - 1))) (c_body_without : CallF P w K mg base "body_without" 3 k (lowφ 1 φ_body_without d)) (hd : d ≤ 4) :
    CallF P w K mg base "body_without" 3 (k + 1) (φ_body_without d) := by
  refine call_of (N := N_body_without) (k := k) T sc_body_without fun f cdv A outer s H E hr => ⟨_, (pmss_cons (pms_set (i := 3) (fun W t => ps_set (i := 3) sc_body_without.nd rfl (.inl rfl) ((pm_tup pma_nil) W t)))
      (pmss_cons (pms_for (passes_of rfl) rfl (pmi_seq (pm_var (pv 0))) (pmg_of (vs := [4]) (pg_name (i := 4) sc_body_without.nd rfl (.inl rfl)))
      (pmss_cons (pms_par (i := 5) (j := 6) (fun W t => ps_par (i := 5) (j := 6) rfl sc_body_without.nd rfl rfl (by decide) rfl rfl ((pma_cons (pm_tup pma_nil) (pma_cons (pm_op od_add (pm_var (pv 1)) pm_int) pma_nil)) W t) (by rfl)))
      (pmss_cons (pms_for (passes_of rfl) rfl (pmi_seq (pm_callF c_bodies_of hr (by rfl) (pma_cons (pm_var (pv 4)) pma_nil))) (pmg_of (vs := [7]) (pg_name (i := 7) sc_body_without.nd rfl (.inl rfl)))
      (pmss_cons (pms_set (i := 5) (fun W t => ps_set (i := 5) sc_body_without.nd rfl (.inl rfl) ((pm_op od_add (pm_var (pv 5)) (pm_tup (pma_cons (pm_callF c_body_without hr (by rfl) (pma_cons (pm_var (pv 7)) (pma_cons (pm_var (pv 6)) (pma_cons (pm_var (pv 2)) pma_nil)))) pma_nil))) W t)))
      (pmss_one (pms_set (i := 6) (fun W t => ps_set (i := 6) sc_body_without.nd rfl (.inl rfl) ((pm_op od_add (pm_var (pv 6)) (pm_lenK (by rfl) m_len (pk_of (pm_callF c_listed hr (by rfl) (pma_cons (pm_var (pv 7)) pma_nil))))) W t))))))
      (pmss_cons (pms_if (pmt_cmp (od_ne (Room.hu64 hr)) (pm_var (pv 1)) (pm_var (pv 2)) (nomark _)) (pmss_one (pms_set (i := 3) (fun W t => ps_set (i := 3) sc_body_without.nd rfl (.inl rfl) ((pm_op od_add (pm_var (pv 3)) (pm_tup (pma_cons (pm_ifExp (pmt_cmp (od_eq (Room.hu64 hr)) (pm_var (pv 5)) (pm_tup pma_nil) (nomark _)) (pm_var (pv 4)) (pm_op od_add (pm_slice sld (pm_var (pv 4)) (.inl ⟨rfl, rfl⟩) (.inr ⟨_, _, rfl, rfl, pm_int⟩)) (pm_var (pv 5)))) pma_nil))) W t)))) pmss_nil)
      (pmss_one (pms_set (i := 1) (fun W t => ps_set (i := 1) sc_body_without.nd rfl (.inl rfl) ((pm_var (pv 6)) W t))))))))
      (pmss_one (pms_ret (pm_var (pv 3)))))), ?_⟩
  rintro ds Wo Q E' - ⟨b, first, gone, rfl, hb, q⟩
  have hl := (okB_iff.mp hb).1
  try simp only [↓pC, ↓pOp, ↓pUn, ↓pSl, ↓pPart, ↓pNil, ↓pCons, ↓pTup, ↓pLst, ↓pCallB, ↓pTest, ↓pNot, ↓pAnd, ↓pOr, ↓pAndV, ↓pOrV, ↓pNotV, ↓pIf, ↓pNext, ↓pSeq, ↓pBreak, ↓pCont, ↓pDrop, ↓pRet, ↓pRetN, ↓pIfS, ↓pgNil, ↓pgCons, ↓pgTup, ↓pAsg, ↓pRaise, ↓pCall, ↓pIter, ↓pFor, ↓pLc, ↓pYes, ↓pkOf, ↓pIxK, ↓pTabG, ↓pLenK, ↓pChain, ↓pStore, ↓pAppend, ↓pPop, ↓poLst, ↓poDct, ↓pNewW, ↓pRng1, ↓pRng2, ↓pTry, ↓pTryAs, ↓oEq, ↓oNe, ↓oLen, ↓oSum, ↓oAll, ↓oAny, ↓oIsi, start0, List.map_cons, List.map_nil, List.length_cons, List.length_nil, List.cons_append, List.nil_append, List.getElem?_cons_zero, List.getElem?_cons_succ, List.set_cons_zero, List.set_cons_succ, List.replicate, D.bl.injEq, D.int.injEq, D.str.injEq, D.tup.injEq, D.lst.injEq, exists_eq_left', exists_eq_left, Option.some.injEq, Bool.false_eq_true, if_true, if_false, true_and, and_true, false_and, and_false, isi_int, isi_bool, isi_str, isi_tuple, isi_list, isiT_int, isiT_bool, isiT_str, isiT_tuple, isiT_list, Bool.not_true, Bool.not_false, dat_non, dat_bl, dat_int, dat_str, dat_tup, dat_lst, isInt_non, isInt_bl, isInt_int, isInt_str, isInt_tup, isInt_lst, isBool_non, isBool_bl, isBool_int, isBool_str, isBool_tup, isBool_lst, isStr_non, isStr_bl, isStr_int, isStr_str, isStr_tup, isStr_lst, isTup_non, isTup_bl, isTup_int, isTup_str, isTup_tup, isTup_lst, isLst_non, isLst_bl, isLst_int, isLst_str, isLst_tup, isLst_lst, Nat.reduceAdd, Nat.zero_add, sz_0, sz_1, sz_2, sz_3, sz_4, sz_5, sz_6, sz_7, sz_8, sz_9, sz_10, sz_11, sz_12, List.any_cons, List.any_nil, eqD_tup, eqD_str, eqD_int, eqDs_cons, eqDs_nil, eqDs_cn, eqDs_nc, Bool.or_false, Bool.and_true, at0, at1, at2, at3, at4, good_int, good_bl, good_nil, good_nilL, good_non, eqDs_nil_r, eqDs_nil_l, List.isEmpty_nil, List.isEmpty_cons, Bool.and_false, Bool.or_true, Bool.false_or, Bool.true_or, Bool.false_and, Bool.true_and, encB, wipS_mk, List.foldr_cons, List.foldr_nil, con_updW, ↓ixC_ownD, ↓oIx_tup, ↓oIx_lst, ↓oIx_str, ↓lenC_ownL, ↓lenC_ownD, ↓setC_ownD, putC_adr, Own_lst_inj, Con_own_inj, updW_upd, Nat.reduceSub, Nat.sub_self, ↓itD_lst, ↓itD_tup, ↓oInt_i, ↓oCmp_i, ↓oAdd_i, ↓oAdd_s, ↓oAdd_t, ↓oAdd_l, ↓oNeg_i, ↓o1I_i, ↓o2I_i, ↓oSl_t, ↓oSl_l, ↓oList_t, ↓oList_l, ↓oTuple_t, ↓oTuple_l, ↓oIn_t, ↓oIn_l, ↓oIsN_n, ↓ixC_ownLi, ↓setC_ownLi, ixN20, ixN21, ex_int1, ex_int2, ↓pSet_eq, ↓ixK_tup, ↓ixK_lst, ↓ixK_str, ↓ixK_dct, ↓lenK_tup, ↓lenK_lst, ↓lenK_str, ↓pSetO_eq, ↓pPar_eq, ↓kPar_mk, ↓pVarV0, ↓pVarV1, ↓pVarV2, ↓pVarV3, ↓pVarV4, ↓pVarV5, ↓pVarV6, ↓pVarV7, ↓pVarL0, ↓pVarL1, ↓pVarL2, ↓pVarL3, ↓pVarL4, ↓pVarL5, ↓pVarL6, ↓pVarL7, ↓pVarD0, ↓pVarD1, ↓pVarD2, ↓pVarD3, ↓pVarD4, ↓pVarD5, ↓pVarD6, ↓pVarD7, ↓pkVarV0, ↓pkVarV1, ↓pkVarV2, ↓pkVarV3, ↓pkVarV4, ↓pkVarV5, ↓pkVarV6, ↓pkVarV7, ↓pkVarO0, ↓pkVarO1, ↓pkVarO2, ↓pkVarO3, ↓pkVarO4, ↓pkVarO5, ↓pkVarO6, ↓pkVarO7, ↓kSetN0, ↓kSetN1, ↓kSetN2, ↓kSetN3, ↓kSetN4, ↓kSetN5, ↓kSetN6, ↓kSetN7, ↓kSetO_N0, ↓kSetO_N1, ↓kSetO_N2, ↓kSetO_N3, ↓kSetO_N4, ↓kSetO_N5, ↓kSetO_N6, ↓kSetO_N7, ↓pgNameN0, ↓pgNameN1, ↓pgNameN2, ↓pgNameN3, ↓pgNameN4, ↓pgNameN5, ↓pgNameN6, ↓pgNameN7, ↓ixS0, ↓ixS1, ↓ixS2, ↓ixS3, ↓ixS4, ↓ixS5, ↓ixS6, ↓ixS7, ↓lenS0, ↓lenS1, ↓lenS2, ↓lenS3, ↓lenS4, ↓lenS5, ↓lenS6, ↓lenS7, ↓setS0, ↓setS1, ↓setS2, ↓setS3, ↓setS4, ↓setS5, ↓setS6, ↓setS7, ↓conS0, ↓conS1, ↓conS2, ↓conS3, ↓conS4, ↓conS5, ↓conS6, ↓conS7, ↓putS0, ↓putS1, ↓putS2, ↓putS3, ↓putS4, ↓putS5, ↓putS6, ↓putS7]
  rw [encSs_map]
  refine forW_list encS (fun r S => ∃ b0 first' s4 s5 s6 s7, (∀ x ∈ r, okS d x = true) ∧ b0.length + r.length ≤ 8 ∧ woB b first gone = b0 ++ woB r first' gone ∧ S = ⟨[.val (.tup (encSs b)), .val (.int first'), .val (.int gone), .val (.tup (b0.map encS)), s4, s5, s6, s7], Wo⟩) ?_ ?_ b _ ⟨[], first, .emp, .emp, .emp, .emp, (okB_iff.mp hb).2, by simpa using hl, rfl, by rw [encSs_map]; rfl⟩
  · rintro S ⟨b0, first', s4, s5, s6, s7, h1, h2, h3, rfl⟩
    try simp only [↓pC, ↓pOp, ↓pUn, ↓pSl, ↓pPart, ↓pNil, ↓pCons, ↓pTup, ↓pLst, ↓pCallB, ↓pTest, ↓pNot, ↓pAnd, ↓pOr, ↓pAndV, ↓pOrV, ↓pNotV, ↓pIf, ↓pNext, ↓pSeq, ↓pBreak, ↓pCont, ↓pDrop, ↓pRet, ↓pRetN, ↓pIfS, ↓pgNil, ↓pgCons, ↓pgTup, ↓pAsg, ↓pRaise, ↓pCall, ↓pIter, ↓pFor, ↓pLc, ↓pYes, ↓pkOf, ↓pIxK, ↓pTabG, ↓pLenK, ↓pChain, ↓pStore, ↓pAppend, ↓pPop, ↓poLst, ↓poDct, ↓pNewW, ↓pRng1, ↓pRng2, ↓pTry, ↓pTryAs, ↓oEq, ↓oNe, ↓oLen, ↓oSum, ↓oAll, ↓oAny, ↓oIsi, start0, List.map_cons, List.map_nil, List.length_cons, List.length_nil, List.cons_append, List.nil_append, List.getElem?_cons_zero, List.getElem?_cons_succ, List.set_cons_zero, List.set_cons_succ, List.replicate, D.bl.injEq, D.int.injEq, D.str.injEq, D.tup.injEq, D.lst.injEq, exists_eq_left', exists_eq_left, Option.some.injEq, Bool.false_eq_true, if_true, if_false, true_and, and_true, false_and, and_false, isi_int, isi_bool, isi_str, isi_tuple, isi_list, isiT_int, isiT_bool, isiT_str, isiT_tuple, isiT_list, Bool.not_true, Bool.not_false, dat_non, dat_bl, dat_int, dat_str, dat_tup, dat_lst, isInt_non, isInt_bl, isInt_int, isInt_str, isInt_tup, isInt_lst, isBool_non, isBool_bl, isBool_int, isBool_str, isBool_tup, isBool_lst, isStr_non, isStr_bl, isStr_int, isStr_str, isStr_tup, isStr_lst, isTup_non, isTup_bl, isTup_int, isTup_str, isTup_tup, isTup_lst, isLst_non, isLst_bl, isLst_int, isLst_str, isLst_tup, isLst_lst, Nat.reduceAdd, Nat.zero_add, sz_0, sz_1, sz_2, sz_3, sz_4, sz_5, sz_6, sz_7, sz_8, sz_9, sz_10, sz_11, sz_12, List.any_cons, List.any_nil, eqD_tup, eqD_str, eqD_int, eqDs_cons, eqDs_nil, eqDs_cn, eqDs_nc, Bool.or_false, Bool.and_true, at0, at1, at2, at3, at4, good_int, good_bl, good_nil, good_nilL, good_non, eqDs_nil_r, eqDs_nil_l, List.isEmpty_nil, List.isEmpty_cons, Bool.and_false, Bool.or_true, Bool.false_or, Bool.true_or, Bool.false_and, Bool.true_and, encB, wipS_mk, List.foldr_cons, List.foldr_nil, con_updW, ↓ixC_ownD, ↓oIx_tup, ↓oIx_lst, ↓oIx_str, ↓lenC_ownL, ↓lenC_ownD, ↓setC_ownD, putC_adr, Own_lst_inj, Con_own_inj, updW_upd, Nat.reduceSub, Nat.sub_self, ↓itD_lst, ↓itD_tup, ↓oInt_i, ↓oCmp_i, ↓oAdd_i, ↓oAdd_s, ↓oAdd_t, ↓oAdd_l, ↓oNeg_i, ↓o1I_i, ↓o2I_i, ↓oSl_t, ↓oSl_l, ↓oList_t, ↓oList_l, ↓oTuple_t, ↓oTuple_l, ↓oIn_t, ↓oIn_l, ↓oIsN_n, ↓ixC_ownLi, ↓setC_ownLi, ixN20, ixN21, ex_int1, ex_int2, ↓pSet_eq, ↓ixK_tup, ↓ixK_lst, ↓ixK_str, ↓ixK_dct, ↓lenK_tup, ↓lenK_lst, ↓lenK_str, ↓pSetO_eq, ↓pPar_eq, ↓kPar_mk, ↓pVarV0, ↓pVarV1, ↓pVarV2, ↓pVarV3, ↓pVarV4, ↓pVarV5, ↓pVarV6, ↓pVarV7, ↓pVarL0, ↓pVarL1, ↓pVarL2, ↓pVarL3, ↓pVarL4, ↓pVarL5, ↓pVarL6, ↓pVarL7, ↓pVarD0, ↓pVarD1, ↓pVarD2, ↓pVarD3, ↓pVarD4, ↓pVarD5, ↓pVarD6, ↓pVarD7, ↓pkVarV0, ↓pkVarV1, ↓pkVarV2, ↓pkVarV3, ↓pkVarV4, ↓pkVarV5, ↓pkVarV6, ↓pkVarV7, ↓pkVarO0, ↓pkVarO1, ↓pkVarO2, ↓pkVarO3, ↓pkVarO4, ↓pkVarO5, ↓pkVarO6, ↓pkVarO7, ↓kSetN0, ↓kSetN1, ↓kSetN2, ↓kSetN3, ↓kSetN4, ↓kSetN5, ↓kSetN6, ↓kSetN7, ↓kSetO_N0, ↓kSetO_N1, ↓kSetO_N2, ↓kSetO_N3, ↓kSetO_N4, ↓kSetO_N5, ↓kSetO_N6, ↓kSetO_N7, ↓pgNameN0, ↓pgNameN1, ↓pgNameN2, ↓pgNameN3, ↓pgNameN4, ↓pgNameN5, ↓pgNameN6, ↓pgNameN7, ↓ixS0, ↓ixS1, ↓ixS2, ↓ixS3, ↓ixS4, ↓ixS5, ↓ixS6, ↓ixS7, ↓lenS0, ↓lenS1, ↓lenS2, ↓lenS3, ↓lenS4, ↓lenS5, ↓lenS6, ↓lenS7, ↓setS0, ↓setS1, ↓setS2, ↓setS3, ↓setS4, ↓setS5, ↓setS6, ↓setS7, ↓conS0, ↓conS1, ↓conS2, ↓conS3, ↓conS4, ↓conS5, ↓conS6, ↓conS7, ↓putS0, ↓putS1, ↓putS2, ↓putS3, ↓putS4, ↓putS5, ↓putS6, ↓putS7]
    rw [h3, woB, List.append_nil, encB, encSs_map] at q
    exact q
  · rintro s r S K' ⟨b0, first', s4, s5, s6, s7, h1, h2, h3, rfl⟩ hK
    have hs := h1 s (List.mem_cons_self ..)
    try simp only [↓pC, ↓pOp, ↓pUn, ↓pSl, ↓pPart, ↓pNil, ↓pCons, ↓pTup, ↓pLst, ↓pCallB, ↓pTest, ↓pNot, ↓pAnd, ↓pOr, ↓pAndV, ↓pOrV, ↓pNotV, ↓pIf, ↓pNext, ↓pSeq, ↓pBreak, ↓pCont, ↓pDrop, ↓pRet, ↓pRetN, ↓pIfS, ↓pgNil, ↓pgCons, ↓pgTup, ↓pAsg, ↓pRaise, ↓pCall, ↓pIter, ↓pFor, ↓pLc, ↓pYes, ↓pkOf, ↓pIxK, ↓pTabG, ↓pLenK, ↓pChain, ↓pStore, ↓pAppend, ↓pPop, ↓poLst, ↓poDct, ↓pNewW, ↓pRng1, ↓pRng2, ↓pTry, ↓pTryAs, ↓oEq, ↓oNe, ↓oLen, ↓oSum, ↓oAll, ↓oAny, ↓oIsi, start0, List.map_cons, List.map_nil, List.length_cons, List.length_nil, List.cons_append, List.nil_append, List.getElem?_cons_zero, List.getElem?_cons_succ, List.set_cons_zero, List.set_cons_succ, List.replicate, D.bl.injEq, D.int.injEq, D.str.injEq, D.tup.injEq, D.lst.injEq, exists_eq_left', exists_eq_left, Option.some.injEq, Bool.false_eq_true, if_true, if_false, true_and, and_true, false_and, and_false, isi_int, isi_bool, isi_str, isi_tuple, isi_list, isiT_int, isiT_bool, isiT_str, isiT_tuple, isiT_list, Bool.not_true, Bool.not_false, dat_non, dat_bl, dat_int, dat_str, dat_tup, dat_lst, isInt_non, isInt_bl, isInt_int, isInt_str, isInt_tup, isInt_lst, isBool_non, isBool_bl, isBool_int, isBool_str, isBool_tup, isBool_lst, isStr_non, isStr_bl, isStr_int, isStr_str, isStr_tup, isStr_lst, isTup_non, isTup_bl, isTup_int, isTup_str, isTup_tup, isTup_lst, isLst_non, isLst_bl, isLst_int, isLst_str, isLst_tup, isLst_lst, Nat.reduceAdd, Nat.zero_add, sz_0, sz_1, sz_2, sz_3, sz_4, sz_5, sz_6, sz_7, sz_8, sz_9, sz_10, sz_11, sz_12, List.any_cons, List.any_nil, eqD_tup, eqD_str, eqD_int, eqDs_cons, eqDs_nil, eqDs_cn, eqDs_nc, Bool.or_false, Bool.and_true, at0, at1, at2, at3, at4, good_int, good_bl, good_nil, good_nilL, good_non, eqDs_nil_r, eqDs_nil_l, List.isEmpty_nil, List.isEmpty_cons, Bool.and_false, Bool.or_true, Bool.false_or, Bool.true_or, Bool.false_and, Bool.true_and, encB, wipS_mk, List.foldr_cons, List.foldr_nil, con_updW, ↓ixC_ownD, ↓oIx_tup, ↓oIx_lst, ↓oIx_str, ↓lenC_ownL, ↓lenC_ownD, ↓setC_ownD, putC_adr, Own_lst_inj, Con_own_inj, updW_upd, Nat.reduceSub, Nat.sub_self, ↓itD_lst, ↓itD_tup, ↓oInt_i, ↓oCmp_i, ↓oAdd_i, ↓oAdd_s, ↓oAdd_t, ↓oAdd_l, ↓oNeg_i, ↓o1I_i, ↓o2I_i, ↓oSl_t, ↓oSl_l, ↓oList_t, ↓oList_l, ↓oTuple_t, ↓oTuple_l, ↓oIn_t, ↓oIn_l, ↓oIsN_n, ↓ixC_ownLi, ↓setC_ownLi, ixN20, ixN21, ex_int1, ex_int2, ↓pSet_eq, ↓ixK_tup, ↓ixK_lst, ↓ixK_str, ↓ixK_dct, ↓lenK_tup, ↓lenK_lst, ↓lenK_str, ↓pSetO_eq, ↓pPar_eq, ↓kPar_mk, ↓pVarV0, ↓pVarV1, ↓pVarV2, ↓pVarV3, ↓pVarV4, ↓pVarV5, ↓pVarV6, ↓pVarV7, ↓pVarL0, ↓pVarL1, ↓pVarL2, ↓pVarL3, ↓pVarL4, ↓pVarL5, ↓pVarL6, ↓pVarL7, ↓pVarD0, ↓pVarD1, ↓pVarD2, ↓pVarD3, ↓pVarD4, ↓pVarD5, ↓pVarD6, ↓pVarD7, ↓pkVarV0, ↓pkVarV1, ↓pkVarV2, ↓pkVarV3, ↓pkVarV4, ↓pkVarV5, ↓pkVarV6, ↓pkVarV7, ↓pkVarO0, ↓pkVarO1, ↓pkVarO2, ↓pkVarO3, ↓pkVarO4, ↓pkVarO5, ↓pkVarO6, ↓pkVarO7, ↓kSetN0, ↓kSetN1, ↓kSetN2, ↓kSetN3, ↓kSetN4, ↓kSetN5, ↓kSetN6, ↓kSetN7, ↓kSetO_N0, ↓kSetO_N1, ↓kSetO_N2, ↓kSetO_N3, ↓kSetO_N4, ↓kSetO_N5, ↓kSetO_N6, ↓kSetO_N7, ↓pgNameN0, ↓pgNameN1, ↓pgNameN2, ↓pgNameN3, ↓pgNameN4, ↓pgNameN5, ↓pgNameN6, ↓pgNameN7, ↓ixS0, ↓ixS1, ↓ixS2, ↓ixS3, ↓ixS4, ↓ixS5, ↓ixS6, ↓ixS7, ↓lenS0, ↓lenS1, ↓lenS2, ↓lenS3, ↓lenS4, ↓lenS5, ↓lenS6, ↓lenS7, ↓setS0, ↓setS1, ↓setS2, ↓setS3, ↓setS4, ↓setS5, ↓setS6, ↓setS7, ↓conS0, ↓conS1, ↓conS2, ↓conS3, ↓conS4, ↓conS5, ↓conS6, ↓conS7, ↓putS0, ↓putS1, ↓putS2, ↓putS3, ↓putS4, ↓putS5, ↓putS6, ↓putS7]
    refine ⟨s, rfl, ?_⟩
    have hc : ∀ (s' : Stm) s4 s5 s6 s7, (first' ≠ gone → s' = woS s first' gone) → K' ⟨[.val (.tup (encSs b)), .val (.int (first' + (listedS s).length)), .val (.int gone), .val (.tup ((b0 ++ (if first' = gone then [] else [s'])).map encS)), s4, s5, s6, s7], Wo⟩ := fun s' s4 s5 s6 s7 h => hK _ ⟨b0 ++ (if first' = gone then [] else [s']), first' + (listedS s).length, _, _, _, _, fun x hx => h1 x (List.mem_cons_of_mem _ hx), by simp only [List.length_cons] at h2; split <;> simp <;> omega, by rw [h3, woB]; by_cases hh : first' = gone <;> simp [hh, h], rfl⟩
    cases s with
    | ite t x y =>
      cases d with
      | zero => simp [okS] at hs
      | succ d =>
        obtain ⟨_, hx, hy⟩ := okS_ite.mp hs
        try simp only [bodD, forW, Nat.add_sub_cancel, ↓pC, ↓pOp, ↓pUn, ↓pSl, ↓pPart, ↓pNil, ↓pCons, ↓pTup, ↓pLst, ↓pCallB, ↓pTest, ↓pNot, ↓pAnd, ↓pOr, ↓pAndV, ↓pOrV, ↓pNotV, ↓pIf, ↓pNext, ↓pSeq, ↓pBreak, ↓pCont, ↓pDrop, ↓pRet, ↓pRetN, ↓pIfS, ↓pgNil, ↓pgCons, ↓pgTup, ↓pAsg, ↓pRaise, ↓pCall, ↓pIter, ↓pFor, ↓pLc, ↓pYes, ↓pkOf, ↓pIxK, ↓pTabG, ↓pLenK, ↓pChain, ↓pStore, ↓pAppend, ↓pPop, ↓poLst, ↓poDct, ↓pNewW, ↓pRng1, ↓pRng2, ↓pTry, ↓pTryAs, ↓oEq, ↓oNe, ↓oLen, ↓oSum, ↓oAll, ↓oAny, ↓oIsi, start0, List.map_cons, List.map_nil, List.length_cons, List.length_nil, List.cons_append, List.nil_append, List.getElem?_cons_zero, List.getElem?_cons_succ, List.set_cons_zero, List.set_cons_succ, List.replicate, D.bl.injEq, D.int.injEq, D.str.injEq, D.tup.injEq, D.lst.injEq, exists_eq_left', exists_eq_left, Option.some.injEq, Bool.false_eq_true, if_true, if_false, true_and, and_true, false_and, and_false, isi_int, isi_bool, isi_str, isi_tuple, isi_list, isiT_int, isiT_bool, isiT_str, isiT_tuple, isiT_list, Bool.not_true, Bool.not_false, dat_non, dat_bl, dat_int, dat_str, dat_tup, dat_lst, isInt_non, isInt_bl, isInt_int, isInt_str, isInt_tup, isInt_lst, isBool_non, isBool_bl, isBool_int, isBool_str, isBool_tup, isBool_lst, isStr_non, isStr_bl, isStr_int, isStr_str, isStr_tup, isStr_lst, isTup_non, isTup_bl, isTup_int, isTup_str, isTup_tup, isTup_lst, isLst_non, isLst_bl, isLst_int, isLst_str, isLst_tup, isLst_lst, Nat.reduceAdd, Nat.zero_add, sz_0, sz_1, sz_2, sz_3, sz_4, sz_5, sz_6, sz_7, sz_8, sz_9, sz_10, sz_11, sz_12, List.any_cons, List.any_nil, eqD_tup, eqD_str, eqD_int, eqDs_cons, eqDs_nil, eqDs_cn, eqDs_nc, Bool.or_false, Bool.and_true, at0, at1, at2, at3, at4, good_int, good_bl, good_nil, good_nilL, good_non, eqDs_nil_r, eqDs_nil_l, List.isEmpty_nil, List.isEmpty_cons, Bool.and_false, Bool.or_true, Bool.false_or, Bool.true_or, Bool.false_and, Bool.true_and, encB, wipS_mk, List.foldr_cons, List.foldr_nil, con_updW, ↓ixC_ownD, ↓oIx_tup, ↓oIx_lst, ↓oIx_str, ↓lenC_ownL, ↓lenC_ownD, ↓setC_ownD, putC_adr, Own_lst_inj, Con_own_inj, updW_upd, Nat.reduceSub, Nat.sub_self, ↓itD_lst, ↓itD_tup, ↓oInt_i, ↓oCmp_i, ↓oAdd_i, ↓oAdd_s, ↓oAdd_t, ↓oAdd_l, ↓oNeg_i, ↓o1I_i, ↓o2I_i, ↓oSl_t, ↓oSl_l, ↓oList_t, ↓oList_l, ↓oTuple_t, ↓oTuple_l, ↓oIn_t, ↓oIn_l, ↓oIsN_n, ↓ixC_ownLi, ↓setC_ownLi, ixN20, ixN21, ex_int1, ex_int2, ↓pSet_eq, ↓ixK_tup, ↓ixK_lst, ↓ixK_str, ↓ixK_dct, ↓lenK_tup, ↓lenK_lst, ↓lenK_str, ↓pSetO_eq, ↓pPar_eq, ↓kPar_mk, ↓pVarV0, ↓pVarV1, ↓pVarV2, ↓pVarV3, ↓pVarV4, ↓pVarV5, ↓pVarV6, ↓pVarV7, ↓pVarL0, ↓pVarL1, ↓pVarL2, ↓pVarL3, ↓pVarL4, ↓pVarL5, ↓pVarL6, ↓pVarL7, ↓pVarD0, ↓pVarD1, ↓pVarD2, ↓pVarD3, ↓pVarD4, ↓pVarD5, ↓pVarD6, ↓pVarD7, ↓pkVarV0, ↓pkVarV1, ↓pkVarV2, ↓pkVarV3, ↓pkVarV4, ↓pkVarV5, ↓pkVarV6, ↓pkVarV7, ↓pkVarO0, ↓pkVarO1, ↓pkVarO2, ↓pkVarO3, ↓pkVarO4, ↓pkVarO5, ↓pkVarO6, ↓pkVarO7, ↓kSetN0, ↓kSetN1, ↓kSetN2, ↓kSetN3, ↓kSetN4, ↓kSetN5, ↓kSetN6, ↓kSetN7, ↓kSetO_N0, ↓kSetO_N1, ↓kSetO_N2, ↓kSetO_N3, ↓kSetO_N4, ↓kSetO_N5, ↓kSetO_N6, ↓kSetO_N7, ↓pgNameN0, ↓pgNameN1, ↓pgNameN2, ↓pgNameN3, ↓pgNameN4, ↓pgNameN5, ↓pgNameN6, ↓pgNameN7, ↓ixS0, ↓ixS1, ↓ixS2, ↓ixS3, ↓ixS4, ↓ixS5, ↓ixS6, ↓ixS7, ↓lenS0, ↓lenS1, ↓lenS2, ↓lenS3, ↓lenS4, ↓lenS5, ↓lenS6, ↓lenS7, ↓setS0, ↓setS1, ↓setS2, ↓setS3, ↓setS4, ↓setS5, ↓setS6, ↓setS7, ↓conS0, ↓conS1, ↓conS2, ↓conS3, ↓conS4, ↓conS5, ↓conS6, ↓conS7, ↓putS0, ↓putS1, ↓putS2, ↓putS3, ↓putS4, ↓putS5, ↓putS6, ↓putS7]
        refine ⟨by omega, x, _, _, rfl, hx, x, rfl, hx, ?_⟩
        try simp only [↓pC, ↓pOp, ↓pUn, ↓pSl, ↓pPart, ↓pNil, ↓pCons, ↓pTup, ↓pLst, ↓pCallB, ↓pTest, ↓pNot, ↓pAnd, ↓pOr, ↓pAndV, ↓pOrV, ↓pNotV, ↓pIf, ↓pNext, ↓pSeq, ↓pBreak, ↓pCont, ↓pDrop, ↓pRet, ↓pRetN, ↓pIfS, ↓pgNil, ↓pgCons, ↓pgTup, ↓pAsg, ↓pRaise, ↓pCall, ↓pIter, ↓pFor, ↓pLc, ↓pYes, ↓pkOf, ↓pIxK, ↓pTabG, ↓pLenK, ↓pChain, ↓pStore, ↓pAppend, ↓pPop, ↓poLst, ↓poDct, ↓pNewW, ↓pRng1, ↓pRng2, ↓pTry, ↓pTryAs, ↓oEq, ↓oNe, ↓oLen, ↓oSum, ↓oAll, ↓oAny, ↓oIsi, start0, List.map_cons, List.map_nil, List.length_cons, List.length_nil, List.cons_append, List.nil_append, List.getElem?_cons_zero, List.getElem?_cons_succ, List.set_cons_zero, List.set_cons_succ, List.replicate, D.bl.injEq, D.int.injEq, D.str.injEq, D.tup.injEq, D.lst.injEq, exists_eq_left', exists_eq_left, Option.some.injEq, Bool.false_eq_true, if_true, if_false, true_and, and_true, false_and, and_false, isi_int, isi_bool, isi_str, isi_tuple, isi_list, isiT_int, isiT_bool, isiT_str, isiT_tuple, isiT_list, Bool.not_true, Bool.not_false, dat_non, dat_bl, dat_int, dat_str, dat_tup, dat_lst, isInt_non, isInt_bl, isInt_int, isInt_str, isInt_tup, isInt_lst, isBool_non, isBool_bl, isBool_int, isBool_str, isBool_tup, isBool_lst, isStr_non, isStr_bl, isStr_int, isStr_str, isStr_tup, isStr_lst, isTup_non, isTup_bl, isTup_int, isTup_str, isTup_tup, isTup_lst, isLst_non, isLst_bl, isLst_int, isLst_str, isLst_tup, isLst_lst, Nat.reduceAdd, Nat.zero_add, sz_0, sz_1, sz_2, sz_3, sz_4, sz_5, sz_6, sz_7, sz_8, sz_9, sz_10, sz_11, sz_12, List.any_cons, List.any_nil, eqD_tup, eqD_str, eqD_int, eqDs_cons, eqDs_nil, eqDs_cn, eqDs_nc, Bool.or_false, Bool.and_true, at0, at1, at2, at3, at4, good_int, good_bl, good_nil, good_nilL, good_non, eqDs_nil_r, eqDs_nil_l, List.isEmpty_nil, List.isEmpty_cons, Bool.and_false, Bool.or_true, Bool.false_or, Bool.true_or, Bool.false_and, Bool.true_and, encB, wipS_mk, List.foldr_cons, List.foldr_nil, con_updW, ↓ixC_ownD, ↓oIx_tup, ↓oIx_lst, ↓oIx_str, ↓lenC_ownL, ↓lenC_ownD, ↓setC_ownD, putC_adr, Own_lst_inj, Con_own_inj, updW_upd, Nat.reduceSub, Nat.sub_self, ↓itD_lst, ↓itD_tup, ↓oInt_i, ↓oCmp_i, ↓oAdd_i, ↓oAdd_s, ↓oAdd_t, ↓oAdd_l, ↓oNeg_i, ↓o1I_i, ↓o2I_i, ↓oSl_t, ↓oSl_l, ↓oList_t, ↓oList_l, ↓oTuple_t, ↓oTuple_l, ↓oIn_t, ↓oIn_l, ↓oIsN_n, ↓ixC_ownLi, ↓setC_ownLi, ixN20, ixN21, ex_int1, ex_int2, ↓pSet_eq, ↓ixK_tup, ↓ixK_lst, ↓ixK_str, ↓ixK_dct, ↓lenK_tup, ↓lenK_lst, ↓lenK_str, ↓pSetO_eq, ↓pPar_eq, ↓kPar_mk, ↓pVarV0, ↓pVarV1, ↓pVarV2, ↓pVarV3, ↓pVarV4, ↓pVarV5, ↓pVarV6, ↓pVarV7, ↓pVarL0, ↓pVarL1, ↓pVarL2, ↓pVarL3, ↓pVarL4, ↓pVarL5, ↓pVarL6, ↓pVarL7, ↓pVarD0, ↓pVarD1, ↓pVarD2, ↓pVarD3, ↓pVarD4, ↓pVarD5, ↓pVarD6, ↓pVarD7, ↓pkVarV0, ↓pkVarV1, ↓pkVarV2, ↓pkVarV3, ↓pkVarV4, ↓pkVarV5, ↓pkVarV6, ↓pkVarV7, ↓pkVarO0, ↓pkVarO1, ↓pkVarO2, ↓pkVarO3, ↓pkVarO4, ↓pkVarO5, ↓pkVarO6, ↓pkVarO7, ↓kSetN0, ↓kSetN1, ↓kSetN2, ↓kSetN3, ↓kSetN4, ↓kSetN5, ↓kSetN6, ↓kSetN7, ↓kSetO_N0, ↓kSetO_N1, ↓kSetO_N2, ↓kSetO_N3, ↓kSetO_N4, ↓kSetO_N5, ↓kSetO_N6, ↓kSetO_N7, ↓pgNameN0, ↓pgNameN1, ↓pgNameN2, ↓pgNameN3, ↓pgNameN4, ↓pgNameN5, ↓pgNameN6, ↓pgNameN7, ↓ixS0, ↓ixS1, ↓ixS2, ↓ixS3, ↓ixS4, ↓ixS5, ↓ixS6, ↓ixS7, ↓lenS0, ↓lenS1, ↓lenS2, ↓lenS3, ↓lenS4, ↓lenS5, ↓lenS6, ↓lenS7, ↓setS0, ↓setS1, ↓setS2, ↓setS3, ↓setS4, ↓setS5, ↓setS6, ↓setS7, ↓conS0, ↓conS1, ↓conS2, ↓conS3, ↓conS4, ↓conS5, ↓conS6, ↓conS7, ↓putS0, ↓putS1, ↓putS2, ↓putS3, ↓putS4, ↓putS5, ↓putS6, ↓putS7]
        refine ⟨by omega, y, _, _, rfl, hy, y, rfl, hy, ?_⟩
        try simp only [↓pC, ↓pOp, ↓pUn, ↓pSl, ↓pPart, ↓pNil, ↓pCons, ↓pTup, ↓pLst, ↓pCallB, ↓pTest, ↓pNot, ↓pAnd, ↓pOr, ↓pAndV, ↓pOrV, ↓pNotV, ↓pIf, ↓pNext, ↓pSeq, ↓pBreak, ↓pCont, ↓pDrop, ↓pRet, ↓pRetN, ↓pIfS, ↓pgNil, ↓pgCons, ↓pgTup, ↓pAsg, ↓pRaise, ↓pCall, ↓pIter, ↓pFor, ↓pLc, ↓pYes, ↓pkOf, ↓pIxK, ↓pTabG, ↓pLenK, ↓pChain, ↓pStore, ↓pAppend, ↓pPop, ↓poLst, ↓poDct, ↓pNewW, ↓pRng1, ↓pRng2, ↓pTry, ↓pTryAs, ↓oEq, ↓oNe, ↓oLen, ↓oSum, ↓oAll, ↓oAny, ↓oIsi, start0, List.map_cons, List.map_nil, List.length_cons, List.length_nil, List.cons_append, List.nil_append, List.getElem?_cons_zero, List.getElem?_cons_succ, List.set_cons_zero, List.set_cons_succ, List.replicate, D.bl.injEq, D.int.injEq, D.str.injEq, D.tup.injEq, D.lst.injEq, exists_eq_left', exists_eq_left, Option.some.injEq, Bool.false_eq_true, if_true, if_false, true_and, and_true, false_and, and_false, isi_int, isi_bool, isi_str, isi_tuple, isi_list, isiT_int, isiT_bool, isiT_str, isiT_tuple, isiT_list, Bool.not_true, Bool.not_false, dat_non, dat_bl, dat_int, dat_str, dat_tup, dat_lst, isInt_non, isInt_bl, isInt_int, isInt_str, isInt_tup, isInt_lst, isBool_non, isBool_bl, isBool_int, isBool_str, isBool_tup, isBool_lst, isStr_non, isStr_bl, isStr_int, isStr_str, isStr_tup, isStr_lst, isTup_non, isTup_bl, isTup_int, isTup_str, isTup_tup, isTup_lst, isLst_non, isLst_bl, isLst_int, isLst_str, isLst_tup, isLst_lst, Nat.reduceAdd, Nat.zero_add, sz_0, sz_1, sz_2, sz_3, sz_4, sz_5, sz_6, sz_7, sz_8, sz_9, sz_10, sz_11, sz_12, List.any_cons, List.any_nil, eqD_tup, eqD_str, eqD_int, eqDs_cons, eqDs_nil, eqDs_cn, eqDs_nc, Bool.or_false, Bool.and_true, at0, at1, at2, at3, at4, good_int, good_bl, good_nil, good_nilL, good_non, eqDs_nil_r, eqDs_nil_l, List.isEmpty_nil, List.isEmpty_cons, Bool.and_false, Bool.or_true, Bool.false_or, Bool.true_or, Bool.false_and, Bool.true_and, encB, wipS_mk, List.foldr_cons, List.foldr_nil, con_updW, ↓ixC_ownD, ↓oIx_tup, ↓oIx_lst, ↓oIx_str, ↓lenC_ownL, ↓lenC_ownD, ↓setC_ownD, putC_adr, Own_lst_inj, Con_own_inj, updW_upd, Nat.reduceSub, Nat.sub_self, ↓itD_lst, ↓itD_tup, ↓oInt_i, ↓oCmp_i, ↓oAdd_i, ↓oAdd_s, ↓oAdd_t, ↓oAdd_l, ↓oNeg_i, ↓o1I_i, ↓o2I_i, ↓oSl_t, ↓oSl_l, ↓oList_t, ↓oList_l, ↓oTuple_t, ↓oTuple_l, ↓oIn_t, ↓oIn_l, ↓oIsN_n, ↓ixC_ownLi, ↓setC_ownLi, ixN20, ixN21, ex_int1, ex_int2, ↓pSet_eq, ↓ixK_tup, ↓ixK_lst, ↓ixK_str, ↓ixK_dct, ↓lenK_tup, ↓lenK_lst, ↓lenK_str, ↓pSetO_eq, ↓pPar_eq, ↓kPar_mk, ↓pVarV0, ↓pVarV1, ↓pVarV2, ↓pVarV3, ↓pVarV4, ↓pVarV5, ↓pVarV6, ↓pVarV7, ↓pVarL0, ↓pVarL1, ↓pVarL2, ↓pVarL3, ↓pVarL4, ↓pVarL5, ↓pVarL6, ↓pVarL7, ↓pVarD0, ↓pVarD1, ↓pVarD2, ↓pVarD3, ↓pVarD4, ↓pVarD5, ↓pVarD6, ↓pVarD7, ↓pkVarV0, ↓pkVarV1, ↓pkVarV2, ↓pkVarV3, ↓pkVarV4, ↓pkVarV5, ↓pkVarV6, ↓pkVarV7, ↓pkVarO0, ↓pkVarO1, ↓pkVarO2, ↓pkVarO3, ↓pkVarO4, ↓pkVarO5, ↓pkVarO6, ↓pkVarO7, ↓kSetN0, ↓kSetN1, ↓kSetN2, ↓kSetN3, ↓kSetN4, ↓kSetN5, ↓kSetN6, ↓kSetN7, ↓kSetO_N0, ↓kSetO_N1, ↓kSetO_N2, ↓kSetO_N3, ↓kSetO_N4, ↓kSetO_N5, ↓kSetO_N6, ↓kSetO_N7, ↓pgNameN0, ↓pgNameN1, ↓pgNameN2, ↓pgNameN3, ↓pgNameN4, ↓pgNameN5, ↓pgNameN6, ↓pgNameN7, ↓ixS0, ↓ixS1, ↓ixS2, ↓ixS3, ↓ixS4, ↓ixS5, ↓ixS6, ↓ixS7, ↓lenS0, ↓lenS1, ↓lenS2, ↓lenS3, ↓lenS4, ↓lenS5, ↓lenS6, ↓lenS7, ↓setS0, ↓setS1, ↓setS2, ↓setS3, ↓setS4, ↓setS5, ↓setS6, ↓setS7, ↓conS0, ↓conS1, ↓conS2, ↓conS3, ↓conS4, ↓conS5, ↓conS6, ↓conS7, ↓putS0, ↓putS1, ↓putS2, ↓putS3, ↓putS4, ↓putS5, ↓putS6, ↓putS7]
        obtain ⟨o1, _⟩ := woB_ok x d (first' + 1) gone hx
        obtain ⟨o2, _⟩ := woB_ok y d (first' + 1 + (listedB x).length) gone hy
        have fin := hc (.ite t (woB x (first' + 1) gone) (woB y (first' + 1 + (listedB x).length) gone))
        simp only [List.length_map, listedS, List.length_cons, List.length_append] at fin ⊢
        have e2 : first' + (((listedB x).length + (listedB y).length + 1 : Nat) : Int) = first' + 1 + (listedB x).length + (listedB y).length := by omega
        rw [e2] at fin
        refine ite2 (fun z => ?_) (fun z => ?_)
        · have z : first' ≠ gone := by simpa using z
          have gd : D.good (.tup [encB (woB x (first' + 1) gone), encB (woB y (first' + 1 + (listedB x).length) gone)]) = true := by
            refine gd_good (n := 2 * d + 3) ?_ (by omega)
            rw [gd_tup]
            simp only [List.all_cons, List.all_nil, gd_B o1, gd_B o2, Bool.and_self]
          refine ⟨gd, ?_⟩
          try simp only [encS, ↓pC, ↓pOp, ↓pUn, ↓pSl, ↓pPart, ↓pNil, ↓pCons, ↓pTup, ↓pLst, ↓pCallB, ↓pTest, ↓pNot, ↓pAnd, ↓pOr, ↓pAndV, ↓pOrV, ↓pNotV, ↓pIf, ↓pNext, ↓pSeq, ↓pBreak, ↓pCont, ↓pDrop, ↓pRet, ↓pRetN, ↓pIfS, ↓pgNil, ↓pgCons, ↓pgTup, ↓pAsg, ↓pRaise, ↓pCall, ↓pIter, ↓pFor, ↓pLc, ↓pYes, ↓pkOf, ↓pIxK, ↓pTabG, ↓pLenK, ↓pChain, ↓pStore, ↓pAppend, ↓pPop, ↓poLst, ↓poDct, ↓pNewW, ↓pRng1, ↓pRng2, ↓pTry, ↓pTryAs, ↓oEq, ↓oNe, ↓oLen, ↓oSum, ↓oAll, ↓oAny, ↓oIsi, start0, List.map_cons, List.map_nil, List.length_cons, List.length_nil, List.cons_append, List.nil_append, List.getElem?_cons_zero, List.getElem?_cons_succ, List.set_cons_zero, List.set_cons_succ, List.replicate, D.bl.injEq, D.int.injEq, D.str.injEq, D.tup.injEq, D.lst.injEq, exists_eq_left', exists_eq_left, Option.some.injEq, Bool.false_eq_true, if_true, if_false, true_and, and_true, false_and, and_false, isi_int, isi_bool, isi_str, isi_tuple, isi_list, isiT_int, isiT_bool, isiT_str, isiT_tuple, isiT_list, Bool.not_true, Bool.not_false, dat_non, dat_bl, dat_int, dat_str, dat_tup, dat_lst, isInt_non, isInt_bl, isInt_int, isInt_str, isInt_tup, isInt_lst, isBool_non, isBool_bl, isBool_int, isBool_str, isBool_tup, isBool_lst, isStr_non, isStr_bl, isStr_int, isStr_str, isStr_tup, isStr_lst, isTup_non, isTup_bl, isTup_int, isTup_str, isTup_tup, isTup_lst, isLst_non, isLst_bl, isLst_int, isLst_str, isLst_tup, isLst_lst, Nat.reduceAdd, Nat.zero_add, sz_0, sz_1, sz_2, sz_3, sz_4, sz_5, sz_6, sz_7, sz_8, sz_9, sz_10, sz_11, sz_12, List.any_cons, List.any_nil, eqD_tup, eqD_str, eqD_int, eqDs_cons, eqDs_nil, eqDs_cn, eqDs_nc, Bool.or_false, Bool.and_true, at0, at1, at2, at3, at4, good_int, good_bl, good_nil, good_nilL, good_non, eqDs_nil_r, eqDs_nil_l, List.isEmpty_nil, List.isEmpty_cons, Bool.and_false, Bool.or_true, Bool.false_or, Bool.true_or, Bool.false_and, Bool.true_and, encB, wipS_mk, List.foldr_cons, List.foldr_nil, con_updW, ↓ixC_ownD, ↓oIx_tup, ↓oIx_lst, ↓oIx_str, ↓lenC_ownL, ↓lenC_ownD, ↓setC_ownD, putC_adr, Own_lst_inj, Con_own_inj, updW_upd, Nat.reduceSub, Nat.sub_self, ↓itD_lst, ↓itD_tup, ↓oInt_i, ↓oCmp_i, ↓oAdd_i, ↓oAdd_s, ↓oAdd_t, ↓oAdd_l, ↓oNeg_i, ↓o1I_i, ↓o2I_i, ↓oSl_t, ↓oSl_l, ↓oList_t, ↓oList_l, ↓oTuple_t, ↓oTuple_l, ↓oIn_t, ↓oIn_l, ↓oIsN_n, ↓ixC_ownLi, ↓setC_ownLi, ixN20, ixN21, ex_int1, ex_int2, ↓pSet_eq, ↓ixK_tup, ↓ixK_lst, ↓ixK_str, ↓ixK_dct, ↓lenK_tup, ↓lenK_lst, ↓lenK_str, ↓pSetO_eq, ↓pPar_eq, ↓kPar_mk, ↓pVarV0, ↓pVarV1, ↓pVarV2, ↓pVarV3, ↓pVarV4, ↓pVarV5, ↓pVarV6, ↓pVarV7, ↓pVarL0, ↓pVarL1, ↓pVarL2, ↓pVarL3, ↓pVarL4, ↓pVarL5, ↓pVarL6, ↓pVarL7, ↓pVarD0, ↓pVarD1, ↓pVarD2, ↓pVarD3, ↓pVarD4, ↓pVarD5, ↓pVarD6, ↓pVarD7, ↓pkVarV0, ↓pkVarV1, ↓pkVarV2, ↓pkVarV3, ↓pkVarV4, ↓pkVarV5, ↓pkVarV6, ↓pkVarV7, ↓pkVarO0, ↓pkVarO1, ↓pkVarO2, ↓pkVarO3, ↓pkVarO4, ↓pkVarO5, ↓pkVarO6, ↓pkVarO7, ↓kSetN0, ↓kSetN1, ↓kSetN2, ↓kSetN3, ↓kSetN4, ↓kSetN5, ↓kSetN6, ↓kSetN7, ↓kSetO_N0, ↓kSetO_N1, ↓kSetO_N2, ↓kSetO_N3, ↓kSetO_N4, ↓kSetO_N5, ↓kSetO_N6, ↓kSetO_N7, ↓pgNameN0, ↓pgNameN1, ↓pgNameN2, ↓pgNameN3, ↓pgNameN4, ↓pgNameN5, ↓pgNameN6, ↓pgNameN7, ↓ixS0, ↓ixS1, ↓ixS2, ↓ixS3, ↓ixS4, ↓ixS5, ↓ixS6, ↓ixS7, ↓lenS0, ↓lenS1, ↓lenS2, ↓lenS3, ↓lenS4, ↓lenS5, ↓lenS6, ↓lenS7, ↓setS0, ↓setS1, ↓setS2, ↓setS3, ↓setS4, ↓setS5, ↓setS6, ↓setS7, ↓conS0, ↓conS1, ↓conS2, ↓conS3, ↓conS4, ↓conS5, ↓conS6, ↓conS7, ↓putS0, ↓putS1, ↓putS2, ↓putS3, ↓putS4, ↓putS5, ↓putS6, ↓putS7]
          rw [show (2 : Int) = ((2 : Nat) : Int) from rfl, cut_to _ _ (by simp)]
          refine ⟨by show _ ≤ 2 ^ 24; simp, by simp only [List.length_cons] at h2; show _ ≤ 2 ^ 24; omega, ?_⟩
          have := fun s4 s5 s6 s7 => fin s4 s5 s6 s7 (fun _ => rfl)
          simp only [if_neg z, List.map_append] at this
          exact this _ _ _ _
        · have z : first' = gone := by simpa using z
          have := fun s4 s5 s6 s7 => fin s4 s5 s6 s7 (fun _ => rfl)
          simp only [if_pos z, List.append_nil] at this
          exact this _ _ _ _
    | _ =>
      try simp only [bodD, forW, ↓pC, ↓pOp, ↓pUn, ↓pSl, ↓pPart, ↓pNil, ↓pCons, ↓pTup, ↓pLst, ↓pCallB, ↓pTest, ↓pNot, ↓pAnd, ↓pOr, ↓pAndV, ↓pOrV, ↓pNotV, ↓pIf, ↓pNext, ↓pSeq, ↓pBreak, ↓pCont, ↓pDrop, ↓pRet, ↓pRetN, ↓pIfS, ↓pgNil, ↓pgCons, ↓pgTup, ↓pAsg, ↓pRaise, ↓pCall, ↓pIter, ↓pFor, ↓pLc, ↓pYes, ↓pkOf, ↓pIxK, ↓pTabG, ↓pLenK, ↓pChain, ↓pStore, ↓pAppend, ↓pPop, ↓poLst, ↓poDct, ↓pNewW, ↓pRng1, ↓pRng2, ↓pTry, ↓pTryAs, ↓oEq, ↓oNe, ↓oLen, ↓oSum, ↓oAll, ↓oAny, ↓oIsi, start0, List.map_cons, List.map_nil, List.length_cons, List.length_nil, List.cons_append, List.nil_append, List.getElem?_cons_zero, List.getElem?_cons_succ, List.set_cons_zero, List.set_cons_succ, List.replicate, D.bl.injEq, D.int.injEq, D.str.injEq, D.tup.injEq, D.lst.injEq, exists_eq_left', exists_eq_left, Option.some.injEq, Bool.false_eq_true, if_true, if_false, true_and, and_true, false_and, and_false, isi_int, isi_bool, isi_str, isi_tuple, isi_list, isiT_int, isiT_bool, isiT_str, isiT_tuple, isiT_list, Bool.not_true, Bool.not_false, dat_non, dat_bl, dat_int, dat_str, dat_tup, dat_lst, isInt_non, isInt_bl, isInt_int, isInt_str, isInt_tup, isInt_lst, isBool_non, isBool_bl, isBool_int, isBool_str, isBool_tup, isBool_lst, isStr_non, isStr_bl, isStr_int, isStr_str, isStr_tup, isStr_lst, isTup_non, isTup_bl, isTup_int, isTup_str, isTup_tup, isTup_lst, isLst_non, isLst_bl, isLst_int, isLst_str, isLst_tup, isLst_lst, Nat.reduceAdd, Nat.zero_add, sz_0, sz_1, sz_2, sz_3, sz_4, sz_5, sz_6, sz_7, sz_8, sz_9, sz_10, sz_11, sz_12, List.any_cons, List.any_nil, eqD_tup, eqD_str, eqD_int, eqDs_cons, eqDs_nil, eqDs_cn, eqDs_nc, Bool.or_false, Bool.and_true, at0, at1, at2, at3, at4, good_int, good_bl, good_nil, good_nilL, good_non, eqDs_nil_r, eqDs_nil_l, List.isEmpty_nil, List.isEmpty_cons, Bool.and_false, Bool.or_true, Bool.false_or, Bool.true_or, Bool.false_and, Bool.true_and, encB, wipS_mk, List.foldr_cons, List.foldr_nil, con_updW, ↓ixC_ownD, ↓oIx_tup, ↓oIx_lst, ↓oIx_str, ↓lenC_ownL, ↓lenC_ownD, ↓setC_ownD, putC_adr, Own_lst_inj, Con_own_inj, updW_upd, Nat.reduceSub, Nat.sub_self, ↓itD_lst, ↓itD_tup, ↓oInt_i, ↓oCmp_i, ↓oAdd_i, ↓oAdd_s, ↓oAdd_t, ↓oAdd_l, ↓oNeg_i, ↓o1I_i, ↓o2I_i, ↓oSl_t, ↓oSl_l, ↓oList_t, ↓oList_l, ↓oTuple_t, ↓oTuple_l, ↓oIn_t, ↓oIn_l, ↓oIsN_n, ↓ixC_ownLi, ↓setC_ownLi, ixN20, ixN21, ex_int1, ex_int2, ↓pSet_eq, ↓ixK_tup, ↓ixK_lst, ↓ixK_str, ↓ixK_dct, ↓lenK_tup, ↓lenK_lst, ↓lenK_str, ↓pSetO_eq, ↓pPar_eq, ↓kPar_mk, ↓pVarV0, ↓pVarV1, ↓pVarV2, ↓pVarV3, ↓pVarV4, ↓pVarV5, ↓pVarV6, ↓pVarV7, ↓pVarL0, ↓pVarL1, ↓pVarL2, ↓pVarL3, ↓pVarL4, ↓pVarL5, ↓pVarL6, ↓pVarL7, ↓pVarD0, ↓pVarD1, ↓pVarD2, ↓pVarD3, ↓pVarD4, ↓pVarD5, ↓pVarD6, ↓pVarD7, ↓pkVarV0, ↓pkVarV1, ↓pkVarV2, ↓pkVarV3, ↓pkVarV4, ↓pkVarV5, ↓pkVarV6, ↓pkVarV7, ↓pkVarO0, ↓pkVarO1, ↓pkVarO2, ↓pkVarO3, ↓pkVarO4, ↓pkVarO5, ↓pkVarO6, ↓pkVarO7, ↓kSetN0, ↓kSetN1, ↓kSetN2, ↓kSetN3, ↓kSetN4, ↓kSetN5, ↓kSetN6, ↓kSetN7, ↓kSetO_N0, ↓kSetO_N1, ↓kSetO_N2, ↓kSetO_N3, ↓kSetO_N4, ↓kSetO_N5, ↓kSetO_N6, ↓kSetO_N7, ↓pgNameN0, ↓pgNameN1, ↓pgNameN2, ↓pgNameN3, ↓pgNameN4, ↓pgNameN5, ↓pgNameN6, ↓pgNameN7, ↓ixS0, ↓ixS1, ↓ixS2, ↓ixS3, ↓ixS4, ↓ixS5, ↓ixS6, ↓ixS7, ↓lenS0, ↓lenS1, ↓lenS2, ↓lenS3, ↓lenS4, ↓lenS5, ↓lenS6, ↓lenS7, ↓setS0, ↓setS1, ↓setS2, ↓setS3, ↓setS4, ↓setS5, ↓setS6, ↓setS7, ↓conS0, ↓conS1, ↓conS2, ↓conS3, ↓conS4, ↓conS5, ↓conS6, ↓conS7, ↓putS0, ↓putS1, ↓putS2, ↓putS3, ↓putS4, ↓putS5, ↓putS6, ↓putS7]
      refine ite2 (fun z => ?_) (fun z => ?_)
      · have z : first' ≠ gone := by simpa using z
        refine ⟨by simp only [List.length_cons] at h2; show _ ≤ 2 ^ 24; rw [List.length_map]; omega, ?_⟩
        have := fun s' s4 s5 s6 s7 => hc s' s4 s5 s6 s7
        simp only [if_neg z, List.map_append] at this
        exact this _ _ _ _ _ (fun _ => rfl)
      · have z : first' = gone := by simpa using z
        have := fun s' s4 s5 s6 s7 => hc s' s4 s5 s6 s7
        simp only [if_pos z, List.append_nil] at this
        exact this _ _ _ _ _ (fun _ => rfl)
abbrev s_less_one : Stmt := topS 21
abbrev N_less_one : List Str := ["loop", "number"]
theorem sc_less_one : FnScope N_less_one ["loop", "number"] (defScope s_less_one) := ⟨rfl, rfl, rfl, by decide +kernel, rfl, by decide +kernel, by decide +kernel⟩
theorem ok_less_one  {k : Nat}  (T : TopD K mg "less_one" ["loop", "number"] s_less_one) (c_body_without : CallF P w K mg base "body_without" 3 k (φ_body_without 3))  :
    CallF P w K mg base "less_one" 2 (k + 1) (φ_less_one) := by
  refine call_of (N := N_less_one) (k := k) T sc_less_one fun f cdv A outer s H E hr => ⟨_, (pmss_one (pms_ret (pm_op od_add (pm_slice sld (pm_var (pv 0)) (.inl ⟨rfl, rfl⟩) (.inr ⟨_, _, rfl, rfl, pm_int⟩)) (pm_tup (pma_cons (pm_callF c_body_without hr (by rfl) (pma_cons (pm_ixK (Room.hu1 hr) (pk_var (pv 0)) pm_int (fun _ _ => rfl)) (pma_cons pm_int (pma_cons (pm_var (pv 1)) pma_nil)))) pma_nil))))), ?_⟩
  rintro ds Wo Q E' - ⟨L, n, rfl, hL, q⟩
  have hB := (okL_iff.mp hL).2.1
  try simp only [encL, ↓pC, ↓pOp, ↓pUn, ↓pSl, ↓pPart, ↓pNil, ↓pCons, ↓pTup, ↓pLst, ↓pCallB, ↓pTest, ↓pNot, ↓pAnd, ↓pOr, ↓pAndV, ↓pOrV, ↓pNotV, ↓pIf, ↓pNext, ↓pSeq, ↓pBreak, ↓pCont, ↓pDrop, ↓pRet, ↓pRetN, ↓pIfS, ↓pgNil, ↓pgCons, ↓pgTup, ↓pAsg, ↓pRaise, ↓pCall, ↓pIter, ↓pFor, ↓pLc, ↓pYes, ↓pkOf, ↓pIxK, ↓pTabG, ↓pLenK, ↓pChain, ↓pStore, ↓pAppend, ↓pPop, ↓poLst, ↓poDct, ↓pNewW, ↓pRng1, ↓pRng2, ↓pTry, ↓pTryAs, ↓oEq, ↓oNe, ↓oLen, ↓oSum, ↓oAll, ↓oAny, ↓oIsi, start0, List.map_cons, List.map_nil, List.length_cons, List.length_nil, List.cons_append, List.nil_append, List.getElem?_cons_zero, List.getElem?_cons_succ, List.set_cons_zero, List.set_cons_succ, List.replicate, D.bl.injEq, D.int.injEq, D.str.injEq, D.tup.injEq, D.lst.injEq, exists_eq_left', exists_eq_left, Option.some.injEq, Bool.false_eq_true, if_true, if_false, true_and, and_true, false_and, and_false, isi_int, isi_bool, isi_str, isi_tuple, isi_list, isiT_int, isiT_bool, isiT_str, isiT_tuple, isiT_list, Bool.not_true, Bool.not_false, dat_non, dat_bl, dat_int, dat_str, dat_tup, dat_lst, isInt_non, isInt_bl, isInt_int, isInt_str, isInt_tup, isInt_lst, isBool_non, isBool_bl, isBool_int, isBool_str, isBool_tup, isBool_lst, isStr_non, isStr_bl, isStr_int, isStr_str, isStr_tup, isStr_lst, isTup_non, isTup_bl, isTup_int, isTup_str, isTup_tup, isTup_lst, isLst_non, isLst_bl, isLst_int, isLst_str, isLst_tup, isLst_lst, Nat.reduceAdd, Nat.zero_add, sz_0, sz_1, sz_2, sz_3, sz_4, sz_5, sz_6, sz_7, sz_8, sz_9, sz_10, sz_11, sz_12, List.any_cons, List.any_nil, eqD_tup, eqD_str, eqD_int, eqDs_cons, eqDs_nil, eqDs_cn, eqDs_nc, Bool.or_false, Bool.and_true, at0, at1, at2, at3, at4, good_int, good_bl, good_nil, good_nilL, good_non, eqDs_nil_r, eqDs_nil_l, List.isEmpty_nil, List.isEmpty_cons, Bool.and_false, Bool.or_true, Bool.false_or, Bool.true_or, Bool.false_and, Bool.true_and, encB, wipS_mk, List.foldr_cons, List.foldr_nil, con_updW, ↓ixC_ownD, ↓oIx_tup, ↓oIx_lst, ↓oIx_str, ↓lenC_ownL, ↓lenC_ownD, ↓setC_ownD, putC_adr, Own_lst_inj, Con_own_inj, updW_upd, Nat.reduceSub, Nat.sub_self, ↓itD_lst, ↓itD_tup, ↓oInt_i, ↓oCmp_i, ↓oAdd_i, ↓oAdd_s, ↓oAdd_t, ↓oAdd_l, ↓oNeg_i, ↓o1I_i, ↓o2I_i, ↓oSl_t, ↓oSl_l, ↓oList_t, ↓oList_l, ↓oTuple_t, ↓oTuple_l, ↓oIn_t, ↓oIn_l, ↓oIsN_n, ↓ixC_ownLi, ↓setC_ownLi, ixN20, ixN21, ex_int1, ex_int2, ↓pSet_eq, ↓ixK_tup, ↓ixK_lst, ↓ixK_str, ↓ixK_dct, ↓lenK_tup, ↓lenK_lst, ↓lenK_str, ↓pSetO_eq, ↓pPar_eq, ↓kPar_mk, ↓pVarV0, ↓pVarV1, ↓pVarL0, ↓pVarL1, ↓pVarD0, ↓pVarD1, ↓pkVarV0, ↓pkVarV1, ↓pkVarO0, ↓pkVarO1, ↓kSetN0, ↓kSetN1, ↓kSetO_N0, ↓kSetO_N1, ↓pgNameN0, ↓pgNameN1, ↓ixS0, ↓ixS1, ↓lenS0, ↓lenS1, ↓setS0, ↓setS1, ↓conS0, ↓conS1, ↓putS0, ↓putS1]
  rw [show (3 : Int) = ((3 : Nat) : Int) from rfl, cut_to _ _ (by simp)]
  refine ⟨L.body, 0, n, rfl, hB, ?_⟩
  try simp only [↓pC, ↓pOp, ↓pUn, ↓pSl, ↓pPart, ↓pNil, ↓pCons, ↓pTup, ↓pLst, ↓pCallB, ↓pTest, ↓pNot, ↓pAnd, ↓pOr, ↓pAndV, ↓pOrV, ↓pNotV, ↓pIf, ↓pNext, ↓pSeq, ↓pBreak, ↓pCont, ↓pDrop, ↓pRet, ↓pRetN, ↓pIfS, ↓pgNil, ↓pgCons, ↓pgTup, ↓pAsg, ↓pRaise, ↓pCall, ↓pIter, ↓pFor, ↓pLc, ↓pYes, ↓pkOf, ↓pIxK, ↓pTabG, ↓pLenK, ↓pChain, ↓pStore, ↓pAppend, ↓pPop, ↓poLst, ↓poDct, ↓pNewW, ↓pRng1, ↓pRng2, ↓pTry, ↓pTryAs, ↓oEq, ↓oNe, ↓oLen, ↓oSum, ↓oAll, ↓oAny, ↓oIsi, start0, List.map_cons, List.map_nil, List.length_cons, List.length_nil, List.cons_append, List.nil_append, List.getElem?_cons_zero, List.getElem?_cons_succ, List.set_cons_zero, List.set_cons_succ, List.replicate, D.bl.injEq, D.int.injEq, D.str.injEq, D.tup.injEq, D.lst.injEq, exists_eq_left', exists_eq_left, Option.some.injEq, Bool.false_eq_true, if_true, if_false, true_and, and_true, false_and, and_false, isi_int, isi_bool, isi_str, isi_tuple, isi_list, isiT_int, isiT_bool, isiT_str, isiT_tuple, isiT_list, Bool.not_true, Bool.not_false, dat_non, dat_bl, dat_int, dat_str, dat_tup, dat_lst, isInt_non, isInt_bl, isInt_int, isInt_str, isInt_tup, isInt_lst, isBool_non, isBool_bl, isBool_int, isBool_str, isBool_tup, isBool_lst, isStr_non, isStr_bl, isStr_int, isStr_str, isStr_tup, isStr_lst, isTup_non, isTup_bl, isTup_int, isTup_str, isTup_tup, isTup_lst, isLst_non, isLst_bl, isLst_int, isLst_str, isLst_tup, isLst_lst, Nat.reduceAdd, Nat.zero_add, sz_0, sz_1, sz_2, sz_3, sz_4, sz_5, sz_6, sz_7, sz_8, sz_9, sz_10, sz_11, sz_12, List.any_cons, List.any_nil, eqD_tup, eqD_str, eqD_int, eqDs_cons, eqDs_nil, eqDs_cn, eqDs_nc, Bool.or_false, Bool.and_true, at0, at1, at2, at3, at4, good_int, good_bl, good_nil, good_nilL, good_non, eqDs_nil_r, eqDs_nil_l, List.isEmpty_nil, List.isEmpty_cons, Bool.and_false, Bool.or_true, Bool.false_or, Bool.true_or, Bool.false_and, Bool.true_and, encB, wipS_mk, List.foldr_cons, List.foldr_nil, con_updW, ↓ixC_ownD, ↓oIx_tup, ↓oIx_lst, ↓oIx_str, ↓lenC_ownL, ↓lenC_ownD, ↓setC_ownD, putC_adr, Own_lst_inj, Con_own_inj, updW_upd, Nat.reduceSub, Nat.sub_self, ↓itD_lst, ↓itD_tup, ↓oInt_i, ↓oCmp_i, ↓oAdd_i, ↓oAdd_s, ↓oAdd_t, ↓oAdd_l, ↓oNeg_i, ↓o1I_i, ↓o2I_i, ↓oSl_t, ↓oSl_l, ↓oList_t, ↓oList_l, ↓oTuple_t, ↓oTuple_l, ↓oIn_t, ↓oIn_l, ↓oIsN_n, ↓ixC_ownLi, ↓setC_ownLi, ixN20, ixN21, ex_int1, ex_int2, ↓pSet_eq, ↓ixK_tup, ↓ixK_lst, ↓ixK_str, ↓ixK_dct, ↓lenK_tup, ↓lenK_lst, ↓lenK_str, ↓pSetO_eq, ↓pPar_eq, ↓kPar_mk, ↓pVarV0, ↓pVarV1, ↓pVarL0, ↓pVarL1, ↓pVarD0, ↓pVarD1, ↓pkVarV0, ↓pkVarV1, ↓pkVarO0, ↓pkVarO1, ↓kSetN0, ↓kSetN1, ↓kSetO_N0, ↓kSetO_N1, ↓pgNameN0, ↓pgNameN1, ↓ixS0, ↓ixS1, ↓lenS0, ↓lenS1, ↓setS0, ↓setS1, ↓conS0, ↓conS1, ↓putS0, ↓putS1]
  exact ⟨by show _ ≤ 2 ^ 24; simp, q⟩
abbrev s_words_of : Stmt := topS 22
abbrev N_words_of : List Str := ["loop", "statement"]
theorem sc_words_of : FnScope N_words_of ["loop"] (defScope s_words_of) := ⟨rfl, rfl, rfl, by decide +kernel, rfl, by decide +kernel, by decide +kernel⟩
theorem ok_words_of  {k : Nat}  (T : TopD K mg "words_of" ["loop"] s_words_of) (c_listed : CallF P w K mg base "listed" 1 k (φ_listed 3))  :
    CallF P w K mg base "words_of" 1 (k + 1) (φ_words_of) := by
  refine call_of (N := N_words_of) (k := k) T sc_words_of fun f cdv A outer s H E hr => ⟨_, (pmss_one (pms_ret (pm_lc (own := [("statement", 1)]) rfl sc_words_of.nd (pmi_seq (pm_callF c_listed hr (by rfl) (pma_cons (pm_ixK (Room.hu1 hr) (pk_var (pv 0)) pm_int (fun _ _ => rfl)) pma_nil))) (blkOk_by (own := [("statement", 1)]) (N := N_words_of) (sc := defScope s_words_of) (by decide +kernel)) (fun _ _ _ _ _ => (pmg_of (vs := [1]) (pg_name (i := 1) sc_words_of.nd rfl (.inl rfl)))) (fun _ _ _ _ _ => pmts_nil) (fun _ _ _ _ _ => (pm_ixK (Room.hu1 hr) (pk_var (pv 1)) pm_int (fun _ _ => rfl)))))), ?_⟩
  rintro ds Wo Q E' - ⟨L, rfl, hL, q⟩
  have hB := (okL_iff.mp hL).2.1
  have h12 := (okL_iff.mp hL).2.2
  try simp only [encL, ↓pC, ↓pOp, ↓pUn, ↓pSl, ↓pPart, ↓pNil, ↓pCons, ↓pTup, ↓pLst, ↓pCallB, ↓pTest, ↓pNot, ↓pAnd, ↓pOr, ↓pAndV, ↓pOrV, ↓pNotV, ↓pIf, ↓pNext, ↓pSeq, ↓pBreak, ↓pCont, ↓pDrop, ↓pRet, ↓pRetN, ↓pIfS, ↓pgNil, ↓pgCons, ↓pgTup, ↓pAsg, ↓pRaise, ↓pCall, ↓pIter, ↓pFor, ↓pLc, ↓pYes, ↓pkOf, ↓pIxK, ↓pTabG, ↓pLenK, ↓pChain, ↓pStore, ↓pAppend, ↓pPop, ↓poLst, ↓poDct, ↓pNewW, ↓pRng1, ↓pRng2, ↓pTry, ↓pTryAs, ↓oEq, ↓oNe, ↓oLen, ↓oSum, ↓oAll, ↓oAny, ↓oIsi, start0, List.map_cons, List.map_nil, List.length_cons, List.length_nil, List.cons_append, List.nil_append, List.getElem?_cons_zero, List.getElem?_cons_succ, List.set_cons_zero, List.set_cons_succ, List.replicate, D.bl.injEq, D.int.injEq, D.str.injEq, D.tup.injEq, D.lst.injEq, exists_eq_left', exists_eq_left, Option.some.injEq, Bool.false_eq_true, if_true, if_false, true_and, and_true, false_and, and_false, isi_int, isi_bool, isi_str, isi_tuple, isi_list, isiT_int, isiT_bool, isiT_str, isiT_tuple, isiT_list, Bool.not_true, Bool.not_false, dat_non, dat_bl, dat_int, dat_str, dat_tup, dat_lst, isInt_non, isInt_bl, isInt_int, isInt_str, isInt_tup, isInt_lst, isBool_non, isBool_bl, isBool_int, isBool_str, isBool_tup, isBool_lst, isStr_non, isStr_bl, isStr_int, isStr_str, isStr_tup, isStr_lst, isTup_non, isTup_bl, isTup_int, isTup_str, isTup_tup, isTup_lst, isLst_non, isLst_bl, isLst_int, isLst_str, isLst_tup, isLst_lst, Nat.reduceAdd, Nat.zero_add, sz_0, sz_1, sz_2, sz_3, sz_4, sz_5, sz_6, sz_7, sz_8, sz_9, sz_10, sz_11, sz_12, List.any_cons, List.any_nil, eqD_tup, eqD_str, eqD_int, eqDs_cons, eqDs_nil, eqDs_cn, eqDs_nc, Bool.or_false, Bool.and_true, at0, at1, at2, at3, at4, good_int, good_bl, good_nil, good_nilL, good_non, eqDs_nil_r, eqDs_nil_l, List.isEmpty_nil, List.isEmpty_cons, Bool.and_false, Bool.or_true, Bool.false_or, Bool.true_or, Bool.false_and, Bool.true_and, encB, wipS_mk, List.foldr_cons, List.foldr_nil, con_updW, ↓ixC_ownD, ↓oIx_tup, ↓oIx_lst, ↓oIx_str, ↓lenC_ownL, ↓lenC_ownD, ↓setC_ownD, putC_adr, Own_lst_inj, Con_own_inj, updW_upd, Nat.reduceSub, Nat.sub_self, ↓itD_lst, ↓itD_tup, ↓oInt_i, ↓oCmp_i, ↓oAdd_i, ↓oAdd_s, ↓oAdd_t, ↓oAdd_l, ↓oNeg_i, ↓o1I_i, ↓o2I_i, ↓oSl_t, ↓oSl_l, ↓oList_t, ↓oList_l, ↓oTuple_t, ↓oTuple_l, ↓oIn_t, ↓oIn_l, ↓oIsN_n, ↓ixC_ownLi, ↓setC_ownLi, ixN20, ixN21, ex_int1, ex_int2, ↓pSet_eq, ↓ixK_tup, ↓ixK_lst, ↓ixK_str, ↓ixK_dct, ↓lenK_tup, ↓lenK_lst, ↓lenK_str, ↓pSetO_eq, ↓pPar_eq, ↓kPar_mk, ↓pVarV0, ↓pVarV1, ↓pVarL0, ↓pVarL1, ↓pVarD0, ↓pVarD1, ↓pkVarV0, ↓pkVarV1, ↓pkVarO0, ↓pkVarO1, ↓kSetN0, ↓kSetN1, ↓kSetO_N0, ↓kSetO_N1, ↓pgNameN0, ↓pgNameN1, ↓ixS0, ↓ixS1, ↓lenS0, ↓lenS1, ↓setS0, ↓setS1, ↓conS0, ↓conS1, ↓putS0, ↓putS1]
  refine ⟨L.body, rfl, hB, ?_⟩
  try simp only [↓pC, ↓pOp, ↓pUn, ↓pSl, ↓pPart, ↓pNil, ↓pCons, ↓pTup, ↓pLst, ↓pCallB, ↓pTest, ↓pNot, ↓pAnd, ↓pOr, ↓pAndV, ↓pOrV, ↓pNotV, ↓pIf, ↓pNext, ↓pSeq, ↓pBreak, ↓pCont, ↓pDrop, ↓pRet, ↓pRetN, ↓pIfS, ↓pgNil, ↓pgCons, ↓pgTup, ↓pAsg, ↓pRaise, ↓pCall, ↓pIter, ↓pFor, ↓pLc, ↓pYes, ↓pkOf, ↓pIxK, ↓pTabG, ↓pLenK, ↓pChain, ↓pStore, ↓pAppend, ↓pPop, ↓poLst, ↓poDct, ↓pNewW, ↓pRng1, ↓pRng2, ↓pTry, ↓pTryAs, ↓oEq, ↓oNe, ↓oLen, ↓oSum, ↓oAll, ↓oAny, ↓oIsi, start0, List.map_cons, List.map_nil, List.length_cons, List.length_nil, List.cons_append, List.nil_append, List.getElem?_cons_zero, List.getElem?_cons_succ, List.set_cons_zero, List.set_cons_succ, List.replicate, D.bl.injEq, D.int.injEq, D.str.injEq, D.tup.injEq, D.lst.injEq, exists_eq_left', exists_eq_left, Option.some.injEq, Bool.false_eq_true, if_true, if_false, true_and, and_true, false_and, and_false, isi_int, isi_bool, isi_str, isi_tuple, isi_list, isiT_int, isiT_bool, isiT_str, isiT_tuple, isiT_list, Bool.not_true, Bool.not_false, dat_non, dat_bl, dat_int, dat_str, dat_tup, dat_lst, isInt_non, isInt_bl, isInt_int, isInt_str, isInt_tup, isInt_lst, isBool_non, isBool_bl, isBool_int, isBool_str, isBool_tup, isBool_lst, isStr_non, isStr_bl, isStr_int, isStr_str, isStr_tup, isStr_lst, isTup_non, isTup_bl, isTup_int, isTup_str, isTup_tup, isTup_lst, isLst_non, isLst_bl, isLst_int, isLst_str, isLst_tup, isLst_lst, Nat.reduceAdd, Nat.zero_add, sz_0, sz_1, sz_2, sz_3, sz_4, sz_5, sz_6, sz_7, sz_8, sz_9, sz_10, sz_11, sz_12, List.any_cons, List.any_nil, eqD_tup, eqD_str, eqD_int, eqDs_cons, eqDs_nil, eqDs_cn, eqDs_nc, Bool.or_false, Bool.and_true, at0, at1, at2, at3, at4, good_int, good_bl, good_nil, good_nilL, good_non, eqDs_nil_r, eqDs_nil_l, List.isEmpty_nil, List.isEmpty_cons, Bool.and_false, Bool.or_true, Bool.false_or, Bool.true_or, Bool.false_and, Bool.true_and, encB, wipS_mk, List.foldr_cons, List.foldr_nil, con_updW, ↓ixC_ownD, ↓oIx_tup, ↓oIx_lst, ↓oIx_str, ↓lenC_ownL, ↓lenC_ownD, ↓setC_ownD, putC_adr, Own_lst_inj, Con_own_inj, updW_upd, Nat.reduceSub, Nat.sub_self, ↓itD_lst, ↓itD_tup, ↓oInt_i, ↓oCmp_i, ↓oAdd_i, ↓oAdd_s, ↓oAdd_t, ↓oAdd_l, ↓oNeg_i, ↓o1I_i, ↓o2I_i, ↓oSl_t, ↓oSl_l, ↓oList_t, ↓oList_l, ↓oTuple_t, ↓oTuple_l, ↓oIn_t, ↓oIn_l, ↓oIsN_n, ↓ixC_ownLi, ↓setC_ownLi, ixN20, ixN21, ex_int1, ex_int2, ↓pSet_eq, ↓ixK_tup, ↓ixK_lst, ↓ixK_str, ↓ixK_dct, ↓lenK_tup, ↓lenK_lst, ↓lenK_str, ↓pSetO_eq, ↓pPar_eq, ↓kPar_mk, ↓pVarV0, ↓pVarV1, ↓pVarL0, ↓pVarL1, ↓pVarD0, ↓pVarD1, ↓pkVarV0, ↓pkVarV1, ↓pkVarO0, ↓pkVarO1, ↓kSetN0, ↓kSetN1, ↓kSetO_N0, ↓kSetO_N1, ↓pgNameN0, ↓pgNameN1, ↓ixS0, ↓ixS1, ↓lenS0, ↓lenS1, ↓setS0, ↓setS1, ↓conS0, ↓conS1, ↓putS0, ↓putS1]
  refine lcW_list encS (fun r acc S => ∃ a, listedB L.body = a ++ r ∧ acc = a.map (fun s => .str (wordS s)) ∧ S = ⟨[.val (encL L), .emp], Wo⟩) ?_ ?_ _ _ _ ⟨[], rfl, rfl, rfl⟩
  · rintro acc S ⟨a, h1, rfl, rfl⟩
    rw [List.append_nil] at h1
    rw [h1] at q
    exact q
  · rintro s r acc S K' ⟨a, h1, rfl, rfl⟩ hK
    have fin : K' (a.map (fun s => D.str (wordS s)) ++ [.str (wordS s)]) ⟨[.val (encL L), .emp], Wo⟩ := hK _ _ ⟨a ++ [s], by rw [h1]; simp, by simp, rfl⟩
    have hn := congrArg List.length h1
    simp only [List.length_append, List.length_cons] at hn
    cases s <;>
    · try simp only [encS, ↓pC, ↓pOp, ↓pUn, ↓pSl, ↓pPart, ↓pNil, ↓pCons, ↓pTup, ↓pLst, ↓pCallB, ↓pTest, ↓pNot, ↓pAnd, ↓pOr, ↓pAndV, ↓pOrV, ↓pNotV, ↓pIf, ↓pNext, ↓pSeq, ↓pBreak, ↓pCont, ↓pDrop, ↓pRet, ↓pRetN, ↓pIfS, ↓pgNil, ↓pgCons, ↓pgTup, ↓pAsg, ↓pRaise, ↓pCall, ↓pIter, ↓pFor, ↓pLc, ↓pYes, ↓pkOf, ↓pIxK, ↓pTabG, ↓pLenK, ↓pChain, ↓pStore, ↓pAppend, ↓pPop, ↓poLst, ↓poDct, ↓pNewW, ↓pRng1, ↓pRng2, ↓pTry, ↓pTryAs, ↓oEq, ↓oNe, ↓oLen, ↓oSum, ↓oAll, ↓oAny, ↓oIsi, start0, List.map_cons, List.map_nil, List.length_cons, List.length_nil, List.cons_append, List.nil_append, List.getElem?_cons_zero, List.getElem?_cons_succ, List.set_cons_zero, List.set_cons_succ, List.replicate, D.bl.injEq, D.int.injEq, D.str.injEq, D.tup.injEq, D.lst.injEq, exists_eq_left', exists_eq_left, Option.some.injEq, Bool.false_eq_true, if_true, if_false, true_and, and_true, false_and, and_false, isi_int, isi_bool, isi_str, isi_tuple, isi_list, isiT_int, isiT_bool, isiT_str, isiT_tuple, isiT_list, Bool.not_true, Bool.not_false, dat_non, dat_bl, dat_int, dat_str, dat_tup, dat_lst, isInt_non, isInt_bl, isInt_int, isInt_str, isInt_tup, isInt_lst, isBool_non, isBool_bl, isBool_int, isBool_str, isBool_tup, isBool_lst, isStr_non, isStr_bl, isStr_int, isStr_str, isStr_tup, isStr_lst, isTup_non, isTup_bl, isTup_int, isTup_str, isTup_tup, isTup_lst, isLst_non, isLst_bl, isLst_int, isLst_str, isLst_tup, isLst_lst, Nat.reduceAdd, Nat.zero_add, sz_0, sz_1, sz_2, sz_3, sz_4, sz_5, sz_6, sz_7, sz_8, sz_9, sz_10, sz_11, sz_12, List.any_cons, List.any_nil, eqD_tup, eqD_str, eqD_int, eqDs_cons, eqDs_nil, eqDs_cn, eqDs_nc, Bool.or_false, Bool.and_true, at0, at1, at2, at3, at4, good_int, good_bl, good_nil, good_nilL, good_non, eqDs_nil_r, eqDs_nil_l, List.isEmpty_nil, List.isEmpty_cons, Bool.and_false, Bool.or_true, Bool.false_or, Bool.true_or, Bool.false_and, Bool.true_and, encB, wipS_mk, List.foldr_cons, List.foldr_nil, con_updW, ↓ixC_ownD, ↓oIx_tup, ↓oIx_lst, ↓oIx_str, ↓lenC_ownL, ↓lenC_ownD, ↓setC_ownD, putC_adr, Own_lst_inj, Con_own_inj, updW_upd, Nat.reduceSub, Nat.sub_self, ↓itD_lst, ↓itD_tup, ↓oInt_i, ↓oCmp_i, ↓oAdd_i, ↓oAdd_s, ↓oAdd_t, ↓oAdd_l, ↓oNeg_i, ↓o1I_i, ↓o2I_i, ↓oSl_t, ↓oSl_l, ↓oList_t, ↓oList_l, ↓oTuple_t, ↓oTuple_l, ↓oIn_t, ↓oIn_l, ↓oIsN_n, ↓ixC_ownLi, ↓setC_ownLi, ixN20, ixN21, ex_int1, ex_int2, ↓pSet_eq, ↓ixK_tup, ↓ixK_lst, ↓ixK_str, ↓ixK_dct, ↓lenK_tup, ↓lenK_lst, ↓lenK_str, ↓pSetO_eq, ↓pPar_eq, ↓kPar_mk, ↓pVarV0, ↓pVarV1, ↓pVarL0, ↓pVarL1, ↓pVarD0, ↓pVarD1, ↓pkVarV0, ↓pkVarV1, ↓pkVarO0, ↓pkVarO1, ↓kSetN0, ↓kSetN1, ↓kSetO_N0, ↓kSetO_N1, ↓pgNameN0, ↓pgNameN1, ↓ixS0, ↓ixS1, ↓lenS0, ↓lenS1, ↓setS0, ↓setS1, ↓conS0, ↓conS1, ↓putS0, ↓putS1]
      exact ⟨by show _ < 2 ^ 24; rw [List.length_map]; omega, fin⟩
abbrev s_statements : Stmt := topS 23
abbrev N_statements : List Str := ["loop"]
theorem sc_statements : FnScope N_statements ["loop"] (defScope s_statements) := ⟨rfl, rfl, rfl, by decide +kernel, rfl, by decide +kernel, by decide +kernel⟩
theorem ok_statements {C_InvalidLoop : Addr} {k : Nat}  (T : TopD K mg "statements" ["loop"] s_statements) (c_words_of : CallF P w K mg base "words_of" 1 k (φ_words_of)) (c_need_loop : CallF P w K mg base "need_loop" 1 k (φ_need_loop C_InvalidLoop))  :
    CallF P w K mg base "statements" 1 (k + 1) (φ_statements C_InvalidLoop) := by
  refine call_of (N := N_statements) (k := k) T sc_statements fun f cdv A outer s H E hr => ⟨_, (pmss_cons (pms_expr (pm_callF c_need_loop hr (by rfl) (pma_cons (pm_var (pv 0)) pma_nil)))
      (pmss_one (pms_ret (pm_callF c_words_of hr (by rfl) (pma_cons (pm_var (pv 0)) pma_nil))))), ?_⟩
  rintro ds Wo Q E' - ⟨v, rfl, hv, q1, q2⟩
  try simp only [↓pC, ↓pOp, ↓pUn, ↓pSl, ↓pPart, ↓pNil, ↓pCons, ↓pTup, ↓pLst, ↓pCallB, ↓pTest, ↓pNot, ↓pAnd, ↓pOr, ↓pAndV, ↓pOrV, ↓pNotV, ↓pIf, ↓pNext, ↓pSeq, ↓pBreak, ↓pCont, ↓pDrop, ↓pRet, ↓pRetN, ↓pIfS, ↓pgNil, ↓pgCons, ↓pgTup, ↓pAsg, ↓pRaise, ↓pCall, ↓pIter, ↓pFor, ↓pLc, ↓pYes, ↓pkOf, ↓pIxK, ↓pTabG, ↓pLenK, ↓pChain, ↓pStore, ↓pAppend, ↓pPop, ↓poLst, ↓poDct, ↓pNewW, ↓pRng1, ↓pRng2, ↓pTry, ↓pTryAs, ↓oEq, ↓oNe, ↓oLen, ↓oSum, ↓oAll, ↓oAny, ↓oIsi, start0, List.map_cons, List.map_nil, List.length_cons, List.length_nil, List.cons_append, List.nil_append, List.getElem?_cons_zero, List.getElem?_cons_succ, List.set_cons_zero, List.set_cons_succ, List.replicate, D.bl.injEq, D.int.injEq, D.str.injEq, D.tup.injEq, D.lst.injEq, exists_eq_left', exists_eq_left, Option.some.injEq, Bool.false_eq_true, if_true, if_false, true_and, and_true, false_and, and_false, isi_int, isi_bool, isi_str, isi_tuple, isi_list, isiT_int, isiT_bool, isiT_str, isiT_tuple, isiT_list, Bool.not_true, Bool.not_false, dat_non, dat_bl, dat_int, dat_str, dat_tup, dat_lst, isInt_non, isInt_bl, isInt_int, isInt_str, isInt_tup, isInt_lst, isBool_non, isBool_bl, isBool_int, isBool_str, isBool_tup, isBool_lst, isStr_non, isStr_bl, isStr_int, isStr_str, isStr_tup, isStr_lst, isTup_non, isTup_bl, isTup_int, isTup_str, isTup_tup, isTup_lst, isLst_non, isLst_bl, isLst_int, isLst_str, isLst_tup, isLst_lst, Nat.reduceAdd, Nat.zero_add, sz_0, sz_1, sz_2, sz_3, sz_4, sz_5, sz_6, sz_7, sz_8, sz_9, sz_10, sz_11, sz_12, List.any_cons, List.any_nil, eqD_tup, eqD_str, eqD_int, eqDs_cons, eqDs_nil, eqDs_cn, eqDs_nc, Bool.or_false, Bool.and_true, at0, at1, at2, at3, at4, good_int, good_bl, good_nil, good_nilL, good_non, eqDs_nil_r, eqDs_nil_l, List.isEmpty_nil, List.isEmpty_cons, Bool.and_false, Bool.or_true, Bool.false_or, Bool.true_or, Bool.false_and, Bool.true_and, encB, wipS_mk, List.foldr_cons, List.foldr_nil, con_updW, ↓ixC_ownD, ↓oIx_tup, ↓oIx_lst, ↓oIx_str, ↓lenC_ownL, ↓lenC_ownD, ↓setC_ownD, putC_adr, Own_lst_inj, Con_own_inj, updW_upd, Nat.reduceSub, Nat.sub_self, ↓itD_lst, ↓itD_tup, ↓oInt_i, ↓oCmp_i, ↓oAdd_i, ↓oAdd_s, ↓oAdd_t, ↓oAdd_l, ↓oNeg_i, ↓o1I_i, ↓o2I_i, ↓oSl_t, ↓oSl_l, ↓oList_t, ↓oList_l, ↓oTuple_t, ↓oTuple_l, ↓oIn_t, ↓oIn_l, ↓oIsN_n, ↓ixC_ownLi, ↓setC_ownLi, ixN20, ixN21, ex_int1, ex_int2, ↓pSet_eq, ↓ixK_tup, ↓ixK_lst, ↓ixK_str, ↓ixK_dct, ↓lenK_tup, ↓lenK_lst, ↓lenK_str, ↓pSetO_eq, ↓pPar_eq, ↓kPar_mk, ↓pVarV0, ↓pVarL0, ↓pVarD0, ↓pkVarV0, ↓pkVarO0, ↓kSetN0, ↓kSetO_N0, ↓pgNameN0, ↓ixS0, ↓lenS0, ↓setS0, ↓conS0, ↓putS0]
  refine ⟨v, rfl, hv, fun h => ?_, q2⟩
  obtain ⟨L, hL, rfl, q3⟩ := q1 h
  exact ⟨L, rfl, hL, q3⟩
abbrev s_without : Stmt := topS 24
abbrev N_without : List Str := ["loop", "number"]
theorem sc_without : FnScope N_without ["loop", "number"] (defScope s_without) := ⟨rfl, rfl, rfl, by decide +kernel, rfl, by decide +kernel, by decide +kernel⟩
theorem ok_without {C_InvalidLoop C_InvalidNumber : Addr} {k : Nat}  (T : TopD K mg "without" ["loop", "number"] s_without) (c_less_one : CallF P w K mg base "less_one" 2 k (φ_less_one)) (c_need_statement_number : CallF P w K mg base "need_statement_number" 2 k (φ_need_statement_number C_InvalidNumber)) (c_need_loop : CallF P w K mg base "need_loop" 1 k (φ_need_loop C_InvalidLoop))  :
    CallF P w K mg base "without" 2 (k + 1) (φ_without C_InvalidLoop C_InvalidNumber) := by
  refine call_of (N := N_without) (k := k) T sc_without fun f cdv A outer s H E hr => ⟨_, (pmss_cons (pms_expr (pm_callF c_need_loop hr (by rfl) (pma_cons (pm_var (pv 0)) pma_nil)))
      (pmss_cons (pms_expr (pm_callF c_need_statement_number hr (by rfl) (pma_cons (pm_var (pv 0)) (pma_cons (pm_var (pv 1)) pma_nil))))
      (pmss_one (pms_ret (pm_callF c_less_one hr (by rfl) (pma_cons (pm_var (pv 0)) (pma_cons (pm_var (pv 1)) pma_nil))))))), ?_⟩
  rintro ds Wo Q E' - ⟨v, n, rfl, hv, hn, q1, q2⟩
  try simp only [↓pC, ↓pOp, ↓pUn, ↓pSl, ↓pPart, ↓pNil, ↓pCons, ↓pTup, ↓pLst, ↓pCallB, ↓pTest, ↓pNot, ↓pAnd, ↓pOr, ↓pAndV, ↓pOrV, ↓pNotV, ↓pIf, ↓pNext, ↓pSeq, ↓pBreak, ↓pCont, ↓pDrop, ↓pRet, ↓pRetN, ↓pIfS, ↓pgNil, ↓pgCons, ↓pgTup, ↓pAsg, ↓pRaise, ↓pCall, ↓pIter, ↓pFor, ↓pLc, ↓pYes, ↓pkOf, ↓pIxK, ↓pTabG, ↓pLenK, ↓pChain, ↓pStore, ↓pAppend, ↓pPop, ↓poLst, ↓poDct, ↓pNewW, ↓pRng1, ↓pRng2, ↓pTry, ↓pTryAs, ↓oEq, ↓oNe, ↓oLen, ↓oSum, ↓oAll, ↓oAny, ↓oIsi, start0, List.map_cons, List.map_nil, List.length_cons, List.length_nil, List.cons_append, List.nil_append, List.getElem?_cons_zero, List.getElem?_cons_succ, List.set_cons_zero, List.set_cons_succ, List.replicate, D.bl.injEq, D.int.injEq, D.str.injEq, D.tup.injEq, D.lst.injEq, exists_eq_left', exists_eq_left, Option.some.injEq, Bool.false_eq_true, if_true, if_false, true_and, and_true, false_and, and_false, isi_int, isi_bool, isi_str, isi_tuple, isi_list, isiT_int, isiT_bool, isiT_str, isiT_tuple, isiT_list, Bool.not_true, Bool.not_false, dat_non, dat_bl, dat_int, dat_str, dat_tup, dat_lst, isInt_non, isInt_bl, isInt_int, isInt_str, isInt_tup, isInt_lst, isBool_non, isBool_bl, isBool_int, isBool_str, isBool_tup, isBool_lst, isStr_non, isStr_bl, isStr_int, isStr_str, isStr_tup, isStr_lst, isTup_non, isTup_bl, isTup_int, isTup_str, isTup_tup, isTup_lst, isLst_non, isLst_bl, isLst_int, isLst_str, isLst_tup, isLst_lst, Nat.reduceAdd, Nat.zero_add, sz_0, sz_1, sz_2, sz_3, sz_4, sz_5, sz_6, sz_7, sz_8, sz_9, sz_10, sz_11, sz_12, List.any_cons, List.any_nil, eqD_tup, eqD_str, eqD_int, eqDs_cons, eqDs_nil, eqDs_cn, eqDs_nc, Bool.or_false, Bool.and_true, at0, at1, at2, at3, at4, good_int, good_bl, good_nil, good_nilL, good_non, eqDs_nil_r, eqDs_nil_l, List.isEmpty_nil, List.isEmpty_cons, Bool.and_false, Bool.or_true, Bool.false_or, Bool.true_or, Bool.false_and, Bool.true_and, encB, wipS_mk, List.foldr_cons, List.foldr_nil, con_updW, ↓ixC_ownD, ↓oIx_tup, ↓oIx_lst, ↓oIx_str, ↓lenC_ownL, ↓lenC_ownD, ↓setC_ownD, putC_adr, Own_lst_inj, Con_own_inj, updW_upd, Nat.reduceSub, Nat.sub_self, ↓itD_lst, ↓itD_tup, ↓oInt_i, ↓oCmp_i, ↓oAdd_i, ↓oAdd_s, ↓oAdd_t, ↓oAdd_l, ↓oNeg_i, ↓o1I_i, ↓o2I_i, ↓oSl_t, ↓oSl_l, ↓oList_t, ↓oList_l, ↓oTuple_t, ↓oTuple_l, ↓oIn_t, ↓oIn_l, ↓oIsN_n, ↓ixC_ownLi, ↓setC_ownLi, ixN20, ixN21, ex_int1, ex_int2, ↓pSet_eq, ↓ixK_tup, ↓ixK_lst, ↓ixK_str, ↓ixK_dct, ↓lenK_tup, ↓lenK_lst, ↓lenK_str, ↓pSetO_eq, ↓pPar_eq, ↓kPar_mk, ↓pVarV0, ↓pVarV1, ↓pVarL0, ↓pVarL1, ↓pVarD0, ↓pVarD1, ↓pkVarV0, ↓pkVarV1, ↓pkVarO0, ↓pkVarO1, ↓kSetN0, ↓kSetN1, ↓kSetO_N0, ↓kSetO_N1, ↓pgNameN0, ↓pgNameN1, ↓ixS0, ↓ixS1, ↓lenS0, ↓lenS1, ↓setS0, ↓setS1, ↓conS0, ↓conS1, ↓putS0, ↓putS1]
  refine ⟨v, rfl, hv, fun h => ?_, q1⟩
  obtain ⟨L, hL, rfl, q3, q4⟩ := q2 h
  refine ⟨L, n, rfl, hL, hn, fun h2 => ?_, q3⟩
  obtain ⟨k, h3, rfl⟩ := isNum_iff.mp h2
  exact ⟨L, k, rfl, hL, q4 k rfl h3⟩
abbrev s__law_source : Stmt := topS 26
abbrev N__law_source : List Str := ["script", "k", "cell"]
theorem sc__law_source : FnScope N__law_source ["script", "k"] (defScope s__law_source) := ⟨rfl, rfl, rfl, by decide +kernel, rfl, by decide +kernel, by decide +kernel⟩
theorem ok__law_source  {k : Nat}  (T : TopD K mg "_law_source" ["script", "k"] s__law_source) (m_int : mg "int" = none) (m_len : mg "len" = none) (m_abs : mg "abs" = none)  :
    CallF P w K mg base "_law_source" 2 (k + 1) (φ__law_source) := by
  refine call_of (N := N__law_source) (k := k) T sc__law_source fun f cdv A outer s H E hr => ⟨_, (pmss_cons (pms_set (i := 2) (fun W t => ps_set (i := 2) sc__law_source.nd rfl (.inl rfl) (pm_int W t)))
      (pmss_cons (pms_if (pmt_cmp od_lt (pm_var (pv 1)) (pm_lenK (by rfl) m_len (pk_var (pv 0))) (nomark _)) (pmss_one (pms_set (i := 2) (fun W t => ps_set (i := 2) sc__law_source.nd rfl (.inl rfl) ((pm_callB cd_abs (by rfl) m_abs (by decide +kernel) (pma_cons (pm_callTy cd_int (by rfl) m_int boot_int (pma_cons (pm_ixK (Room.hu1 hr) (pk_var (pv 0)) (pm_var (pv 1)) (fun _ _ => rfl)) pma_nil)) pma_nil)) W t)))) pmss_nil)
      (pmss_cons (pms_if (pmt_cmp od_lt (pm_var (pv 2)) (pm_op od_pow pm_int pm_int) (nomark _)) (pmss_one (pms_ret (pm_newW (pmo_lst (pma_cons pm_int (pma_cons (pm_op od_add pm_int (pm_op od_mod (pm_callTy cd_int (by rfl) m_int boot_int (pma_cons (pm_op od_add (pm_op od_mul (pm_var (pv 2)) pm_int) (pm_op od_mul pm_int (pm_var (pv 1)))) pma_nil)) pm_int)) pma_nil)))))) pmss_nil)
      (pmss_one (pms_ret (pm_newW (pmo_lst (pma_cons (pm_var (pv 2)) (pma_cons (pm_op od_add pm_int (pm_op od_mod (pm_callTy cd_int (by rfl) m_int boot_int (pma_cons (pm_op od_add (pm_var (pv 2)) (pm_var (pv 1))) pma_nil)) pm_int)) pma_nil))))))))), ?_⟩
  rintro ds Wo Q E' - ⟨xs, k, rfl, hk, h10, q⟩
  have q' : ∀ x y : Int, ∀ a, Wo a = none → Q (.adr a) (updW Wo a (.lst [.int x, .int y])) := fun x y a h => q a _ ⟨x, y, rfl⟩ h
  have c1 : CPow 10 18 := by unfold CPow; decide
  have c2 : CMul 104729 k := .inl (by decide)
  have c3 : ∀ x, CMul x 7919 := fun x => .inr (by decide)
  try simp only [↓pC, ↓pOp, ↓pUn, ↓pSl, ↓pPart, ↓pNil, ↓pCons, ↓pTup, ↓pLst, ↓pCallB, ↓pTest, ↓pNot, ↓pAnd, ↓pOr, ↓pAndV, ↓pOrV, ↓pNotV, ↓pIf, ↓pNext, ↓pSeq, ↓pBreak, ↓pCont, ↓pDrop, ↓pRet, ↓pRetN, ↓pIfS, ↓pgNil, ↓pgCons, ↓pgTup, ↓pAsg, ↓pRaise, ↓pCall, ↓pIter, ↓pFor, ↓pLc, ↓pYes, ↓pkOf, ↓pIxK, ↓pTabG, ↓pLenK, ↓pChain, ↓pStore, ↓pAppend, ↓pPop, ↓poLst, ↓poDct, ↓pNewW, ↓pRng1, ↓pRng2, ↓pTry, ↓pTryAs, ↓oEq, ↓oNe, ↓oLen, ↓oSum, ↓oAll, ↓oAny, ↓oIsi, start0, List.map_cons, List.map_nil, List.length_cons, List.length_nil, List.cons_append, List.nil_append, List.getElem?_cons_zero, List.getElem?_cons_succ, List.set_cons_zero, List.set_cons_succ, List.replicate, D.bl.injEq, D.int.injEq, D.str.injEq, D.tup.injEq, D.lst.injEq, exists_eq_left', exists_eq_left, Option.some.injEq, Bool.false_eq_true, if_true, if_false, true_and, and_true, false_and, and_false, isi_int, isi_bool, isi_str, isi_tuple, isi_list, isiT_int, isiT_bool, isiT_str, isiT_tuple, isiT_list, Bool.not_true, Bool.not_false, dat_non, dat_bl, dat_int, dat_str, dat_tup, dat_lst, isInt_non, isInt_bl, isInt_int, isInt_str, isInt_tup, isInt_lst, isBool_non, isBool_bl, isBool_int, isBool_str, isBool_tup, isBool_lst, isStr_non, isStr_bl, isStr_int, isStr_str, isStr_tup, isStr_lst, isTup_non, isTup_bl, isTup_int, isTup_str, isTup_tup, isTup_lst, isLst_non, isLst_bl, isLst_int, isLst_str, isLst_tup, isLst_lst, Nat.reduceAdd, Nat.zero_add, sz_0, sz_1, sz_2, sz_3, sz_4, sz_5, sz_6, sz_7, sz_8, sz_9, sz_10, sz_11, sz_12, List.any_cons, List.any_nil, eqD_tup, eqD_str, eqD_int, eqDs_cons, eqDs_nil, eqDs_cn, eqDs_nc, Bool.or_false, Bool.and_true, at0, at1, at2, at3, at4, good_int, good_bl, good_nil, good_nilL, good_non, eqDs_nil_r, eqDs_nil_l, List.isEmpty_nil, List.isEmpty_cons, Bool.and_false, Bool.or_true, Bool.false_or, Bool.true_or, Bool.false_and, Bool.true_and, encB, wipS_mk, List.foldr_cons, List.foldr_nil, con_updW, ↓ixC_ownD, ↓oIx_tup, ↓oIx_lst, ↓oIx_str, ↓lenC_ownL, ↓lenC_ownD, ↓setC_ownD, putC_adr, Own_lst_inj, Con_own_inj, updW_upd, Nat.reduceSub, Nat.sub_self, ↓itD_lst, ↓itD_tup, ↓oInt_i, ↓oCmp_i, ↓oAdd_i, ↓oAdd_s, ↓oAdd_t, ↓oAdd_l, ↓oNeg_i, ↓o1I_i, ↓o2I_i, ↓oSl_t, ↓oSl_l, ↓oList_t, ↓oList_l, ↓oTuple_t, ↓oTuple_l, ↓oIn_t, ↓oIn_l, ↓oIsN_n, ↓ixC_ownLi, ↓setC_ownLi, ixN20, ixN21, ex_int1, ex_int2, ↓pSet_eq, ↓ixK_tup, ↓ixK_lst, ↓ixK_str, ↓ixK_dct, ↓lenK_tup, ↓lenK_lst, ↓lenK_str, ↓pSetO_eq, ↓pPar_eq, ↓kPar_mk, ↓pVarV0, ↓pVarV1, ↓pVarV2, ↓pVarL0, ↓pVarL1, ↓pVarL2, ↓pVarD0, ↓pVarD1, ↓pVarD2, ↓pkVarV0, ↓pkVarV1, ↓pkVarV2, ↓pkVarO0, ↓pkVarO1, ↓pkVarO2, ↓kSetN0, ↓kSetN1, ↓kSetN2, ↓kSetO_N0, ↓kSetO_N1, ↓kSetO_N2, ↓pgNameN0, ↓pgNameN1, ↓pgNameN2, ↓ixS0, ↓ixS1, ↓ixS2, ↓lenS0, ↓lenS1, ↓lenS2, ↓setS0, ↓setS1, ↓setS2, ↓conS0, ↓conS1, ↓conS2, ↓putS0, ↓putS1, ↓putS2]
  refine ite2 (fun z => ?_) (fun z => ?_)
  · have z : k < xs.length := by simpa using z
    obtain ⟨x, hx, ex⟩ := atI_lt (xs := xs.map D.int) hk (by simpa using z)
    obtain ⟨x, _, rfl⟩ := List.mem_map.mp hx
    refine ⟨.int x, ex, ?_⟩
    · try simp only [↓pC, ↓pOp, ↓pUn, ↓pSl, ↓pPart, ↓pNil, ↓pCons, ↓pTup, ↓pLst, ↓pCallB, ↓pTest, ↓pNot, ↓pAnd, ↓pOr, ↓pAndV, ↓pOrV, ↓pNotV, ↓pIf, ↓pNext, ↓pSeq, ↓pBreak, ↓pCont, ↓pDrop, ↓pRet, ↓pRetN, ↓pIfS, ↓pgNil, ↓pgCons, ↓pgTup, ↓pAsg, ↓pRaise, ↓pCall, ↓pIter, ↓pFor, ↓pLc, ↓pYes, ↓pkOf, ↓pIxK, ↓pTabG, ↓pLenK, ↓pChain, ↓pStore, ↓pAppend, ↓pPop, ↓poLst, ↓poDct, ↓pNewW, ↓pRng1, ↓pRng2, ↓pTry, ↓pTryAs, ↓oEq, ↓oNe, ↓oLen, ↓oSum, ↓oAll, ↓oAny, ↓oIsi, start0, List.map_cons, List.map_nil, List.length_cons, List.length_nil, List.cons_append, List.nil_append, List.getElem?_cons_zero, List.getElem?_cons_succ, List.set_cons_zero, List.set_cons_succ, List.replicate, D.bl.injEq, D.int.injEq, D.str.injEq, D.tup.injEq, D.lst.injEq, exists_eq_left', exists_eq_left, Option.some.injEq, Bool.false_eq_true, if_true, if_false, true_and, and_true, false_and, and_false, isi_int, isi_bool, isi_str, isi_tuple, isi_list, isiT_int, isiT_bool, isiT_str, isiT_tuple, isiT_list, Bool.not_true, Bool.not_false, dat_non, dat_bl, dat_int, dat_str, dat_tup, dat_lst, isInt_non, isInt_bl, isInt_int, isInt_str, isInt_tup, isInt_lst, isBool_non, isBool_bl, isBool_int, isBool_str, isBool_tup, isBool_lst, isStr_non, isStr_bl, isStr_int, isStr_str, isStr_tup, isStr_lst, isTup_non, isTup_bl, isTup_int, isTup_str, isTup_tup, isTup_lst, isLst_non, isLst_bl, isLst_int, isLst_str, isLst_tup, isLst_lst, Nat.reduceAdd, Nat.zero_add, sz_0, sz_1, sz_2, sz_3, sz_4, sz_5, sz_6, sz_7, sz_8, sz_9, sz_10, sz_11, sz_12, List.any_cons, List.any_nil, eqD_tup, eqD_str, eqD_int, eqDs_cons, eqDs_nil, eqDs_cn, eqDs_nc, Bool.or_false, Bool.and_true, at0, at1, at2, at3, at4, good_int, good_bl, good_nil, good_nilL, good_non, eqDs_nil_r, eqDs_nil_l, List.isEmpty_nil, List.isEmpty_cons, Bool.and_false, Bool.or_true, Bool.false_or, Bool.true_or, Bool.false_and, Bool.true_and, encB, wipS_mk, List.foldr_cons, List.foldr_nil, con_updW, ↓ixC_ownD, ↓oIx_tup, ↓oIx_lst, ↓oIx_str, ↓lenC_ownL, ↓lenC_ownD, ↓setC_ownD, putC_adr, Own_lst_inj, Con_own_inj, updW_upd, Nat.reduceSub, Nat.sub_self, ↓itD_lst, ↓itD_tup, ↓oInt_i, ↓oCmp_i, ↓oAdd_i, ↓oAdd_s, ↓oAdd_t, ↓oAdd_l, ↓oNeg_i, ↓o1I_i, ↓o2I_i, ↓oSl_t, ↓oSl_l, ↓oList_t, ↓oList_l, ↓oTuple_t, ↓oTuple_l, ↓oIn_t, ↓oIn_l, ↓oIsN_n, ↓ixC_ownLi, ↓setC_ownLi, ixN20, ixN21, ex_int1, ex_int2, ↓pSet_eq, ↓ixK_tup, ↓ixK_lst, ↓ixK_str, ↓ixK_dct, ↓lenK_tup, ↓lenK_lst, ↓lenK_str, ↓pSetO_eq, ↓pPar_eq, ↓kPar_mk, ↓pVarV0, ↓pVarV1, ↓pVarV2, ↓pVarL0, ↓pVarL1, ↓pVarL2, ↓pVarD0, ↓pVarD1, ↓pVarD2, ↓pkVarV0, ↓pkVarV1, ↓pkVarV2, ↓pkVarO0, ↓pkVarO1, ↓pkVarO2, ↓kSetN0, ↓kSetN1, ↓kSetN2, ↓kSetO_N0, ↓kSetO_N1, ↓kSetO_N2, ↓pgNameN0, ↓pgNameN1, ↓pgNameN2, ↓ixS0, ↓ixS1, ↓ixS2, ↓lenS0, ↓lenS1, ↓lenS2, ↓setS0, ↓setS1, ↓setS2, ↓conS0, ↓conS1, ↓conS2, ↓putS0, ↓putS1, ↓putS2]
      exact ⟨c1, ite2 (fun _ => ⟨c3 _, c2, by decide, q' _ _⟩) (fun _ => ⟨by decide, q' _ _⟩)⟩
  · exact ⟨c1, ite2 (fun _ => ⟨c3 _, c2, by decide, q' _ _⟩) (fun _ => ⟨by decide, q' _ _⟩)⟩
abbrev s__law_draw : Stmt := topS 27
abbrev N__law_draw : List Str := ["source", "many", "found"]
theorem sc__law_draw : FnScope N__law_draw ["source", "many"] (defScope s__law_draw) := ⟨rfl, rfl, rfl, by decide +kernel, rfl, by decide +kernel, by decide +kernel⟩
theorem ok__law_draw  {k : Nat}  (T : TopD K mg "_law_draw" ["source", "many"] s__law_draw) (m_int : mg "int" = none)  :
    CallF P w K mg base "_law_draw" 2 (k + 1) (φ__law_draw) := by
  refine call_of (N := N__law_draw) (k := k) T sc__law_draw fun f cdv A outer s H E hr => ⟨_, (pmss_cons (pms_if (pmt_cmp od_gt (pm_ixK (Room.hu1 hr) (pk_var (pv 0)) pm_int (fun _ _ => rfl)) pm_int (nomark _)) (pmss_cons (pms_set (i := 2) (fun W t => ps_set (i := 2) sc__law_draw.nd rfl (.inl rfl) ((pm_op od_mod (pm_callTy cd_int (by rfl) m_int boot_int (pma_cons (pm_ixK (Room.hu1 hr) (pk_var (pv 0)) pm_int (fun _ _ => rfl)) pma_nil)) (pm_var (pv 1))) W t)))
      (pmss_cons (pms_store (fun W t => ps_asg ((pm_op od_fdiv (pm_ixK (Room.hu1 hr) (pk_var (pv 0)) pm_int (fun _ _ => rfl)) (pm_var (pv 1))) W t) (pg_sub ((pk_var (pv 0)) W t) (pm_int W t) (set_any (Room.hu1 hr)))))
      (pmss_one (pms_ret (pm_var (pv 2)))))) pmss_nil)
      (pmss_cons (pms_store (fun W t => ps_asg ((pm_op od_mod (pm_callTy cd_int (by rfl) m_int boot_int (pma_cons (pm_op od_mul (pm_ixK (Room.hu1 hr) (pk_var (pv 0)) pm_int (fun _ _ => rfl)) pm_int) pma_nil)) pm_int) W t) (pg_sub ((pk_var (pv 0)) W t) (pm_int W t) (set_any (Room.hu1 hr)))))
      (pmss_one (pms_ret (pm_op od_mod (pm_callTy cd_int (by rfl) m_int boot_int (pma_cons (pm_op od_fdiv (pm_op od_mod (pm_callTy cd_int (by rfl) m_int boot_int (pma_cons (pm_op od_mul (pm_ixK (Room.hu1 hr) (pk_var (pv 0)) pm_int (fun _ _ => rfl)) (pm_ixK (Room.hu1 hr) (pk_var (pv 0)) pm_int (fun _ _ => rfl))) pma_nil)) pm_int) pm_int) pma_nil)) (pm_var (pv 1))))))), ?_⟩
  rintro ds Wo Q E' - ⟨a, m, rfl, hm, hm2, ⟨x, y, hx⟩, q⟩
  have cn : ∀ ρ, con ⟨ρ, Wo⟩ (.val (.adr a)) = .own (.lst [.int x, .int y]) := fun ρ => con_own hx
  have q' : ∀ z x y : Int, 0 ≤ z → z < m → Q (.int z) (updW Wo a (.lst [.int x, .int y])) := fun z x y h1 h2 => q z _ h1 h2 ⟨x, y, rfl⟩
  try simp only [cn, ↓pC, ↓pOp, ↓pUn, ↓pSl, ↓pPart, ↓pNil, ↓pCons, ↓pTup, ↓pLst, ↓pCallB, ↓pTest, ↓pNot, ↓pAnd, ↓pOr, ↓pAndV, ↓pOrV, ↓pNotV, ↓pIf, ↓pNext, ↓pSeq, ↓pBreak, ↓pCont, ↓pDrop, ↓pRet, ↓pRetN, ↓pIfS, ↓pgNil, ↓pgCons, ↓pgTup, ↓pAsg, ↓pRaise, ↓pCall, ↓pIter, ↓pFor, ↓pLc, ↓pYes, ↓pkOf, ↓pIxK, ↓pTabG, ↓pLenK, ↓pChain, ↓pStore, ↓pAppend, ↓pPop, ↓poLst, ↓poDct, ↓pNewW, ↓pRng1, ↓pRng2, ↓pTry, ↓pTryAs, ↓oEq, ↓oNe, ↓oLen, ↓oSum, ↓oAll, ↓oAny, ↓oIsi, start0, List.map_cons, List.map_nil, List.length_cons, List.length_nil, List.cons_append, List.nil_append, List.getElem?_cons_zero, List.getElem?_cons_succ, List.set_cons_zero, List.set_cons_succ, List.replicate, D.bl.injEq, D.int.injEq, D.str.injEq, D.tup.injEq, D.lst.injEq, exists_eq_left', exists_eq_left, Option.some.injEq, Bool.false_eq_true, if_true, if_false, true_and, and_true, false_and, and_false, isi_int, isi_bool, isi_str, isi_tuple, isi_list, isiT_int, isiT_bool, isiT_str, isiT_tuple, isiT_list, Bool.not_true, Bool.not_false, dat_non, dat_bl, dat_int, dat_str, dat_tup, dat_lst, isInt_non, isInt_bl, isInt_int, isInt_str, isInt_tup, isInt_lst, isBool_non, isBool_bl, isBool_int, isBool_str, isBool_tup, isBool_lst, isStr_non, isStr_bl, isStr_int, isStr_str, isStr_tup, isStr_lst, isTup_non, isTup_bl, isTup_int, isTup_str, isTup_tup, isTup_lst, isLst_non, isLst_bl, isLst_int, isLst_str, isLst_tup, isLst_lst, Nat.reduceAdd, Nat.zero_add, sz_0, sz_1, sz_2, sz_3, sz_4, sz_5, sz_6, sz_7, sz_8, sz_9, sz_10, sz_11, sz_12, List.any_cons, List.any_nil, eqD_tup, eqD_str, eqD_int, eqDs_cons, eqDs_nil, eqDs_cn, eqDs_nc, Bool.or_false, Bool.and_true, at0, at1, at2, at3, at4, good_int, good_bl, good_nil, good_nilL, good_non, eqDs_nil_r, eqDs_nil_l, List.isEmpty_nil, List.isEmpty_cons, Bool.and_false, Bool.or_true, Bool.false_or, Bool.true_or, Bool.false_and, Bool.true_and, encB, wipS_mk, List.foldr_cons, List.foldr_nil, con_updW, ↓ixC_ownD, ↓oIx_tup, ↓oIx_lst, ↓oIx_str, ↓lenC_ownL, ↓lenC_ownD, ↓setC_ownD, putC_adr, Own_lst_inj, Con_own_inj, updW_upd, Nat.reduceSub, Nat.sub_self, ↓itD_lst, ↓itD_tup, ↓oInt_i, ↓oCmp_i, ↓oAdd_i, ↓oAdd_s, ↓oAdd_t, ↓oAdd_l, ↓oNeg_i, ↓o1I_i, ↓o2I_i, ↓oSl_t, ↓oSl_l, ↓oList_t, ↓oList_l, ↓oTuple_t, ↓oTuple_l, ↓oIn_t, ↓oIn_l, ↓oIsN_n, ↓ixC_ownLi, ↓setC_ownLi, ixN20, ixN21, ex_int1, ex_int2, ↓pSet_eq, ↓ixK_tup, ↓ixK_lst, ↓ixK_str, ↓ixK_dct, ↓lenK_tup, ↓lenK_lst, ↓lenK_str, ↓pSetO_eq, ↓pPar_eq, ↓kPar_mk, ↓pVarV0, ↓pVarV1, ↓pVarV2, ↓pVarL0, ↓pVarL1, ↓pVarL2, ↓pVarD0, ↓pVarD1, ↓pVarD2, ↓pkVarV0, ↓pkVarV1, ↓pkVarV2, ↓pkVarO0, ↓pkVarO1, ↓pkVarO2, ↓kSetN0, ↓kSetN1, ↓kSetN2, ↓kSetO_N0, ↓kSetO_N1, ↓kSetO_N2, ↓pgNameN0, ↓pgNameN1, ↓pgNameN2, ↓ixS0, ↓ixS1, ↓ixS2, ↓lenS0, ↓lenS1, ↓lenS2, ↓setS0, ↓setS1, ↓setS2, ↓conS0, ↓conS1, ↓conS2, ↓putS0, ↓putS1, ↓putS2]
  refine ite2 (fun z => ?_) (fun z => ?_)
  · exact ⟨hm, ⟨hm, hm2⟩, q' _ _ _ (Int.emod_nonneg _ (by omega)) (Int.emod_lt_of_pos _ hm)⟩
  · have h1 := Int.emod_nonneg (y * 48271) (show (2147483647 : Int) ≠ 0 by decide)
    have h2 := Int.emod_lt_of_pos (y * 48271) (show (0 : Int) < 2147483647 by decide)
    exact ⟨.inr (by decide), by decide, .inl ⟨by omega, by omega⟩, by decide, ⟨by decide, by decide⟩, hm, q' _ _ _ (Int.emod_nonneg _ (by omega)) (Int.emod_lt_of_pos _ hm)⟩
abbrev s__law_of : Stmt := topS 28
abbrev N__law_of : List Str := ["source", "items"]
theorem sc__law_of : FnScope N__law_of ["source", "items"] (defScope s__law_of) := ⟨rfl, rfl, rfl, by decide +kernel, rfl, by decide +kernel, by decide +kernel⟩
theorem ok__law_of  {k : Nat}  (T : TopD K mg "_law_of" ["source", "items"] s__law_of) (c__law_draw : CallF P w K mg base "_law_draw" 2 k (φ__law_draw)) (m_len : mg "len" = none)  :
    CallF P w K mg base "_law_of" 2 (k + 1) (φ__law_of) := by
  refine call_of (N := N__law_of) (k := k) T sc__law_of fun f cdv A outer s H E hr => ⟨_, (pmss_one (pms_ret (pm_ixK (Room.hu1 hr) (pk_var (pv 1)) (pm_callF c__law_draw hr (by rfl) (pma_cons (pm_var (pv 0)) (pma_cons (pm_lenK (by rfl) m_len (pk_var (pv 1))) pma_nil))) (fun _ _ => rfl)))), ?_⟩
  rintro ds Wo Q E' - ⟨a, d, xs, rfl, hd, hx, hl, hs, q⟩
  try simp only [↓pC, ↓pOp, ↓pUn, ↓pSl, ↓pPart, ↓pNil, ↓pCons, ↓pTup, ↓pLst, ↓pCallB, ↓pTest, ↓pNot, ↓pAnd, ↓pOr, ↓pAndV, ↓pOrV, ↓pNotV, ↓pIf, ↓pNext, ↓pSeq, ↓pBreak, ↓pCont, ↓pDrop, ↓pRet, ↓pRetN, ↓pIfS, ↓pgNil, ↓pgCons, ↓pgTup, ↓pAsg, ↓pRaise, ↓pCall, ↓pIter, ↓pFor, ↓pLc, ↓pYes, ↓pkOf, ↓pIxK, ↓pTabG, ↓pLenK, ↓pChain, ↓pStore, ↓pAppend, ↓pPop, ↓poLst, ↓poDct, ↓pNewW, ↓pRng1, ↓pRng2, ↓pTry, ↓pTryAs, ↓oEq, ↓oNe, ↓oLen, ↓oSum, ↓oAll, ↓oAny, ↓oIsi, start0, List.map_cons, List.map_nil, List.length_cons, List.length_nil, List.cons_append, List.nil_append, List.getElem?_cons_zero, List.getElem?_cons_succ, List.set_cons_zero, List.set_cons_succ, List.replicate, D.bl.injEq, D.int.injEq, D.str.injEq, D.tup.injEq, D.lst.injEq, exists_eq_left', exists_eq_left, Option.some.injEq, Bool.false_eq_true, if_true, if_false, true_and, and_true, false_and, and_false, isi_int, isi_bool, isi_str, isi_tuple, isi_list, isiT_int, isiT_bool, isiT_str, isiT_tuple, isiT_list, Bool.not_true, Bool.not_false, dat_non, dat_bl, dat_int, dat_str, dat_tup, dat_lst, isInt_non, isInt_bl, isInt_int, isInt_str, isInt_tup, isInt_lst, isBool_non, isBool_bl, isBool_int, isBool_str, isBool_tup, isBool_lst, isStr_non, isStr_bl, isStr_int, isStr_str, isStr_tup, isStr_lst, isTup_non, isTup_bl, isTup_int, isTup_str, isTup_tup, isTup_lst, isLst_non, isLst_bl, isLst_int, isLst_str, isLst_tup, isLst_lst, Nat.reduceAdd, Nat.zero_add, sz_0, sz_1, sz_2, sz_3, sz_4, sz_5, sz_6, sz_7, sz_8, sz_9, sz_10, sz_11, sz_12, List.any_cons, List.any_nil, eqD_tup, eqD_str, eqD_int, eqDs_cons, eqDs_nil, eqDs_cn, eqDs_nc, Bool.or_false, Bool.and_true, at0, at1, at2, at3, at4, good_int, good_bl, good_nil, good_nilL, good_non, eqDs_nil_r, eqDs_nil_l, List.isEmpty_nil, List.isEmpty_cons, Bool.and_false, Bool.or_true, Bool.false_or, Bool.true_or, Bool.false_and, Bool.true_and, encB, wipS_mk, List.foldr_cons, List.foldr_nil, con_updW, ↓ixC_ownD, ↓oIx_tup, ↓oIx_lst, ↓oIx_str, ↓lenC_ownL, ↓lenC_ownD, ↓setC_ownD, putC_adr, Own_lst_inj, Con_own_inj, updW_upd, Nat.reduceSub, Nat.sub_self, ↓itD_lst, ↓itD_tup, ↓oInt_i, ↓oCmp_i, ↓oAdd_i, ↓oAdd_s, ↓oAdd_t, ↓oAdd_l, ↓oNeg_i, ↓o1I_i, ↓o2I_i, ↓oSl_t, ↓oSl_l, ↓oList_t, ↓oList_l, ↓oTuple_t, ↓oTuple_l, ↓oIn_t, ↓oIn_l, ↓oIsN_n, ↓ixC_ownLi, ↓setC_ownLi, ixN20, ixN21, ex_int1, ex_int2, ↓pSet_eq, ↓ixK_tup, ↓ixK_lst, ↓ixK_str, ↓ixK_dct, ↓lenK_tup, ↓lenK_lst, ↓lenK_str, ↓pSetO_eq, ↓pPar_eq, ↓kPar_mk, ↓pVarV0, ↓pVarV1, ↓pVarL0, ↓pVarL1, ↓pVarD0, ↓pVarD1, ↓pkVarV0, ↓pkVarV1, ↓pkVarO0, ↓pkVarO1, ↓kSetN0, ↓kSetN1, ↓kSetO_N0, ↓kSetO_N1, ↓pgNameN0, ↓pgNameN1, ↓ixS0, ↓ixS1, ↓lenS0, ↓lenS1, ↓setS0, ↓setS1, ↓conS0, ↓conS1, ↓putS0, ↓putS1]
  have hp : 0 < xs.length := List.length_pos_iff.mpr hx
  have fin : ∀ (z : Int) W', 0 ≤ z → z < (xs.length : Int) → Dr Wo a W' → ∃ d, atI xs z = some d ∧ Q d W' := fun z W' h1 h2 h3 => by
    obtain ⟨x, hx, ex⟩ := atI_lt h1 h2
    exact ⟨x, ex, q _ _ hx h3⟩
  cases d with
  | lst ys =>
    cases hd
    try simp only [↓pC, ↓pOp, ↓pUn, ↓pSl, ↓pPart, ↓pNil, ↓pCons, ↓pTup, ↓pLst, ↓pCallB, ↓pTest, ↓pNot, ↓pAnd, ↓pOr, ↓pAndV, ↓pOrV, ↓pNotV, ↓pIf, ↓pNext, ↓pSeq, ↓pBreak, ↓pCont, ↓pDrop, ↓pRet, ↓pRetN, ↓pIfS, ↓pgNil, ↓pgCons, ↓pgTup, ↓pAsg, ↓pRaise, ↓pCall, ↓pIter, ↓pFor, ↓pLc, ↓pYes, ↓pkOf, ↓pIxK, ↓pTabG, ↓pLenK, ↓pChain, ↓pStore, ↓pAppend, ↓pPop, ↓poLst, ↓poDct, ↓pNewW, ↓pRng1, ↓pRng2, ↓pTry, ↓pTryAs, ↓oEq, ↓oNe, ↓oLen, ↓oSum, ↓oAll, ↓oAny, ↓oIsi, start0, List.map_cons, List.map_nil, List.length_cons, List.length_nil, List.cons_append, List.nil_append, List.getElem?_cons_zero, List.getElem?_cons_succ, List.set_cons_zero, List.set_cons_succ, List.replicate, D.bl.injEq, D.int.injEq, D.str.injEq, D.tup.injEq, D.lst.injEq, exists_eq_left', exists_eq_left, Option.some.injEq, Bool.false_eq_true, if_true, if_false, true_and, and_true, false_and, and_false, isi_int, isi_bool, isi_str, isi_tuple, isi_list, isiT_int, isiT_bool, isiT_str, isiT_tuple, isiT_list, Bool.not_true, Bool.not_false, dat_non, dat_bl, dat_int, dat_str, dat_tup, dat_lst, isInt_non, isInt_bl, isInt_int, isInt_str, isInt_tup, isInt_lst, isBool_non, isBool_bl, isBool_int, isBool_str, isBool_tup, isBool_lst, isStr_non, isStr_bl, isStr_int, isStr_str, isStr_tup, isStr_lst, isTup_non, isTup_bl, isTup_int, isTup_str, isTup_tup, isTup_lst, isLst_non, isLst_bl, isLst_int, isLst_str, isLst_tup, isLst_lst, Nat.reduceAdd, Nat.zero_add, sz_0, sz_1, sz_2, sz_3, sz_4, sz_5, sz_6, sz_7, sz_8, sz_9, sz_10, sz_11, sz_12, List.any_cons, List.any_nil, eqD_tup, eqD_str, eqD_int, eqDs_cons, eqDs_nil, eqDs_cn, eqDs_nc, Bool.or_false, Bool.and_true, at0, at1, at2, at3, at4, good_int, good_bl, good_nil, good_nilL, good_non, eqDs_nil_r, eqDs_nil_l, List.isEmpty_nil, List.isEmpty_cons, Bool.and_false, Bool.or_true, Bool.false_or, Bool.true_or, Bool.false_and, Bool.true_and, encB, wipS_mk, List.foldr_cons, List.foldr_nil, con_updW, ↓ixC_ownD, ↓oIx_tup, ↓oIx_lst, ↓oIx_str, ↓lenC_ownL, ↓lenC_ownD, ↓setC_ownD, putC_adr, Own_lst_inj, Con_own_inj, updW_upd, Nat.reduceSub, Nat.sub_self, ↓itD_lst, ↓itD_tup, ↓oInt_i, ↓oCmp_i, ↓oAdd_i, ↓oAdd_s, ↓oAdd_t, ↓oAdd_l, ↓oNeg_i, ↓o1I_i, ↓o2I_i, ↓oSl_t, ↓oSl_l, ↓oList_t, ↓oList_l, ↓oTuple_t, ↓oTuple_l, ↓oIn_t, ↓oIn_l, ↓oIsN_n, ↓ixC_ownLi, ↓setC_ownLi, ixN20, ixN21, ex_int1, ex_int2, ↓pSet_eq, ↓ixK_tup, ↓ixK_lst, ↓ixK_str, ↓ixK_dct, ↓lenK_tup, ↓lenK_lst, ↓lenK_str, ↓pSetO_eq, ↓pPar_eq, ↓kPar_mk, ↓pVarV0, ↓pVarV1, ↓pVarL0, ↓pVarL1, ↓pVarD0, ↓pVarD1, ↓pkVarV0, ↓pkVarV1, ↓pkVarO0, ↓pkVarO1, ↓kSetN0, ↓kSetN1, ↓kSetO_N0, ↓kSetO_N1, ↓pgNameN0, ↓pgNameN1, ↓ixS0, ↓ixS1, ↓lenS0, ↓lenS1, ↓setS0, ↓setS1, ↓conS0, ↓conS1, ↓putS0, ↓putS1]
    refine ⟨a, _, rfl, by omega, by omega, hs, fun z W' h1 h2 h3 => ?_⟩
    try simp only [↓pC, ↓pOp, ↓pUn, ↓pSl, ↓pPart, ↓pNil, ↓pCons, ↓pTup, ↓pLst, ↓pCallB, ↓pTest, ↓pNot, ↓pAnd, ↓pOr, ↓pAndV, ↓pOrV, ↓pNotV, ↓pIf, ↓pNext, ↓pSeq, ↓pBreak, ↓pCont, ↓pDrop, ↓pRet, ↓pRetN, ↓pIfS, ↓pgNil, ↓pgCons, ↓pgTup, ↓pAsg, ↓pRaise, ↓pCall, ↓pIter, ↓pFor, ↓pLc, ↓pYes, ↓pkOf, ↓pIxK, ↓pTabG, ↓pLenK, ↓pChain, ↓pStore, ↓pAppend, ↓pPop, ↓poLst, ↓poDct, ↓pNewW, ↓pRng1, ↓pRng2, ↓pTry, ↓pTryAs, ↓oEq, ↓oNe, ↓oLen, ↓oSum, ↓oAll, ↓oAny, ↓oIsi, start0, List.map_cons, List.map_nil, List.length_cons, List.length_nil, List.cons_append, List.nil_append, List.getElem?_cons_zero, List.getElem?_cons_succ, List.set_cons_zero, List.set_cons_succ, List.replicate, D.bl.injEq, D.int.injEq, D.str.injEq, D.tup.injEq, D.lst.injEq, exists_eq_left', exists_eq_left, Option.some.injEq, Bool.false_eq_true, if_true, if_false, true_and, and_true, false_and, and_false, isi_int, isi_bool, isi_str, isi_tuple, isi_list, isiT_int, isiT_bool, isiT_str, isiT_tuple, isiT_list, Bool.not_true, Bool.not_false, dat_non, dat_bl, dat_int, dat_str, dat_tup, dat_lst, isInt_non, isInt_bl, isInt_int, isInt_str, isInt_tup, isInt_lst, isBool_non, isBool_bl, isBool_int, isBool_str, isBool_tup, isBool_lst, isStr_non, isStr_bl, isStr_int, isStr_str, isStr_tup, isStr_lst, isTup_non, isTup_bl, isTup_int, isTup_str, isTup_tup, isTup_lst, isLst_non, isLst_bl, isLst_int, isLst_str, isLst_tup, isLst_lst, Nat.reduceAdd, Nat.zero_add, sz_0, sz_1, sz_2, sz_3, sz_4, sz_5, sz_6, sz_7, sz_8, sz_9, sz_10, sz_11, sz_12, List.any_cons, List.any_nil, eqD_tup, eqD_str, eqD_int, eqDs_cons, eqDs_nil, eqDs_cn, eqDs_nc, Bool.or_false, Bool.and_true, at0, at1, at2, at3, at4, good_int, good_bl, good_nil, good_nilL, good_non, eqDs_nil_r, eqDs_nil_l, List.isEmpty_nil, List.isEmpty_cons, Bool.and_false, Bool.or_true, Bool.false_or, Bool.true_or, Bool.false_and, Bool.true_and, encB, wipS_mk, List.foldr_cons, List.foldr_nil, con_updW, ↓ixC_ownD, ↓oIx_tup, ↓oIx_lst, ↓oIx_str, ↓lenC_ownL, ↓lenC_ownD, ↓setC_ownD, putC_adr, Own_lst_inj, Con_own_inj, updW_upd, Nat.reduceSub, Nat.sub_self, ↓itD_lst, ↓itD_tup, ↓oInt_i, ↓oCmp_i, ↓oAdd_i, ↓oAdd_s, ↓oAdd_t, ↓oAdd_l, ↓oNeg_i, ↓o1I_i, ↓o2I_i, ↓oSl_t, ↓oSl_l, ↓oList_t, ↓oList_l, ↓oTuple_t, ↓oTuple_l, ↓oIn_t, ↓oIn_l, ↓oIsN_n, ↓ixC_ownLi, ↓setC_ownLi, ixN20, ixN21, ex_int1, ex_int2, ↓pSet_eq, ↓ixK_tup, ↓ixK_lst, ↓ixK_str, ↓ixK_dct, ↓lenK_tup, ↓lenK_lst, ↓lenK_str, ↓pSetO_eq, ↓pPar_eq, ↓kPar_mk, ↓pVarV0, ↓pVarV1, ↓pVarL0, ↓pVarL1, ↓pVarD0, ↓pVarD1, ↓pkVarV0, ↓pkVarV1, ↓pkVarO0, ↓pkVarO1, ↓kSetN0, ↓kSetN1, ↓kSetO_N0, ↓kSetO_N1, ↓pgNameN0, ↓pgNameN1, ↓ixS0, ↓ixS1, ↓lenS0, ↓lenS1, ↓setS0, ↓setS1, ↓conS0, ↓conS1, ↓putS0, ↓putS1]
    exact fin z W' h1 h2 h3
  | tup ys =>
    cases hd
    try simp only [↓pC, ↓pOp, ↓pUn, ↓pSl, ↓pPart, ↓pNil, ↓pCons, ↓pTup, ↓pLst, ↓pCallB, ↓pTest, ↓pNot, ↓pAnd, ↓pOr, ↓pAndV, ↓pOrV, ↓pNotV, ↓pIf, ↓pNext, ↓pSeq, ↓pBreak, ↓pCont, ↓pDrop, ↓pRet, ↓pRetN, ↓pIfS, ↓pgNil, ↓pgCons, ↓pgTup, ↓pAsg, ↓pRaise, ↓pCall, ↓pIter, ↓pFor, ↓pLc, ↓pYes, ↓pkOf, ↓pIxK, ↓pTabG, ↓pLenK, ↓pChain, ↓pStore, ↓pAppend, ↓pPop, ↓poLst, ↓poDct, ↓pNewW, ↓pRng1, ↓pRng2, ↓pTry, ↓pTryAs, ↓oEq, ↓oNe, ↓oLen, ↓oSum, ↓oAll, ↓oAny, ↓oIsi, start0, List.map_cons, List.map_nil, List.length_cons, List.length_nil, List.cons_append, List.nil_append, List.getElem?_cons_zero, List.getElem?_cons_succ, List.set_cons_zero, List.set_cons_succ, List.replicate, D.bl.injEq, D.int.injEq, D.str.injEq, D.tup.injEq, D.lst.injEq, exists_eq_left', exists_eq_left, Option.some.injEq, Bool.false_eq_true, if_true, if_false, true_and, and_true, false_and, and_false, isi_int, isi_bool, isi_str, isi_tuple, isi_list, isiT_int, isiT_bool, isiT_str, isiT_tuple, isiT_list, Bool.not_true, Bool.not_false, dat_non, dat_bl, dat_int, dat_str, dat_tup, dat_lst, isInt_non, isInt_bl, isInt_int, isInt_str, isInt_tup, isInt_lst, isBool_non, isBool_bl, isBool_int, isBool_str, isBool_tup, isBool_lst, isStr_non, isStr_bl, isStr_int, isStr_str, isStr_tup, isStr_lst, isTup_non, isTup_bl, isTup_int, isTup_str, isTup_tup, isTup_lst, isLst_non, isLst_bl, isLst_int, isLst_str, isLst_tup, isLst_lst, Nat.reduceAdd, Nat.zero_add, sz_0, sz_1, sz_2, sz_3, sz_4, sz_5, sz_6, sz_7, sz_8, sz_9, sz_10, sz_11, sz_12, List.any_cons, List.any_nil, eqD_tup, eqD_str, eqD_int, eqDs_cons, eqDs_nil, eqDs_cn, eqDs_nc, Bool.or_false, Bool.and_true, at0, at1, at2, at3, at4, good_int, good_bl, good_nil, good_nilL, good_non, eqDs_nil_r, eqDs_nil_l, List.isEmpty_nil, List.isEmpty_cons, Bool.and_false, Bool.or_true, Bool.false_or, Bool.true_or, Bool.false_and, Bool.true_and, encB, wipS_mk, List.foldr_cons, List.foldr_nil, con_updW, ↓ixC_ownD, ↓oIx_tup, ↓oIx_lst, ↓oIx_str, ↓lenC_ownL, ↓lenC_ownD, ↓setC_ownD, putC_adr, Own_lst_inj, Con_own_inj, updW_upd, Nat.reduceSub, Nat.sub_self, ↓itD_lst, ↓itD_tup, ↓oInt_i, ↓oCmp_i, ↓oAdd_i, ↓oAdd_s, ↓oAdd_t, ↓oAdd_l, ↓oNeg_i, ↓o1I_i, ↓o2I_i, ↓oSl_t, ↓oSl_l, ↓oList_t, ↓oList_l, ↓oTuple_t, ↓oTuple_l, ↓oIn_t, ↓oIn_l, ↓oIsN_n, ↓ixC_ownLi, ↓setC_ownLi, ixN20, ixN21, ex_int1, ex_int2, ↓pSet_eq, ↓ixK_tup, ↓ixK_lst, ↓ixK_str, ↓ixK_dct, ↓lenK_tup, ↓lenK_lst, ↓lenK_str, ↓pSetO_eq, ↓pPar_eq, ↓kPar_mk, ↓pVarV0, ↓pVarV1, ↓pVarL0, ↓pVarL1, ↓pVarD0, ↓pVarD1, ↓pkVarV0, ↓pkVarV1, ↓pkVarO0, ↓pkVarO1, ↓kSetN0, ↓kSetN1, ↓kSetO_N0, ↓kSetO_N1, ↓pgNameN0, ↓pgNameN1, ↓ixS0, ↓ixS1, ↓lenS0, ↓lenS1, ↓setS0, ↓setS1, ↓conS0, ↓conS1, ↓putS0, ↓putS1]
    refine ⟨a, _, rfl, by omega, by omega, hs, fun z W' h1 h2 h3 => ?_⟩
    try simp only [↓pC, ↓pOp, ↓pUn, ↓pSl, ↓pPart, ↓pNil, ↓pCons, ↓pTup, ↓pLst, ↓pCallB, ↓pTest, ↓pNot, ↓pAnd, ↓pOr, ↓pAndV, ↓pOrV, ↓pNotV, ↓pIf, ↓pNext, ↓pSeq, ↓pBreak, ↓pCont, ↓pDrop, ↓pRet, ↓pRetN, ↓pIfS, ↓pgNil, ↓pgCons, ↓pgTup, ↓pAsg, ↓pRaise, ↓pCall, ↓pIter, ↓pFor, ↓pLc, ↓pYes, ↓pkOf, ↓pIxK, ↓pTabG, ↓pLenK, ↓pChain, ↓pStore, ↓pAppend, ↓pPop, ↓poLst, ↓poDct, ↓pNewW, ↓pRng1, ↓pRng2, ↓pTry, ↓pTryAs, ↓oEq, ↓oNe, ↓oLen, ↓oSum, ↓oAll, ↓oAny, ↓oIsi, start0, List.map_cons, List.map_nil, List.length_cons, List.length_nil, List.cons_append, List.nil_append, List.getElem?_cons_zero, List.getElem?_cons_succ, List.set_cons_zero, List.set_cons_succ, List.replicate, D.bl.injEq, D.int.injEq, D.str.injEq, D.tup.injEq, D.lst.injEq, exists_eq_left', exists_eq_left, Option.some.injEq, Bool.false_eq_true, if_true, if_false, true_and, and_true, false_and, and_false, isi_int, isi_bool, isi_str, isi_tuple, isi_list, isiT_int, isiT_bool, isiT_str, isiT_tuple, isiT_list, Bool.not_true, Bool.not_false, dat_non, dat_bl, dat_int, dat_str, dat_tup, dat_lst, isInt_non, isInt_bl, isInt_int, isInt_str, isInt_tup, isInt_lst, isBool_non, isBool_bl, isBool_int, isBool_str, isBool_tup, isBool_lst, isStr_non, isStr_bl, isStr_int, isStr_str, isStr_tup, isStr_lst, isTup_non, isTup_bl, isTup_int, isTup_str, isTup_tup, isTup_lst, isLst_non, isLst_bl, isLst_int, isLst_str, isLst_tup, isLst_lst, Nat.reduceAdd, Nat.zero_add, sz_0, sz_1, sz_2, sz_3, sz_4, sz_5, sz_6, sz_7, sz_8, sz_9, sz_10, sz_11, sz_12, List.any_cons, List.any_nil, eqD_tup, eqD_str, eqD_int, eqDs_cons, eqDs_nil, eqDs_cn, eqDs_nc, Bool.or_false, Bool.and_true, at0, at1, at2, at3, at4, good_int, good_bl, good_nil, good_nilL, good_non, eqDs_nil_r, eqDs_nil_l, List.isEmpty_nil, List.isEmpty_cons, Bool.and_false, Bool.or_true, Bool.false_or, Bool.true_or, Bool.false_and, Bool.true_and, encB, wipS_mk, List.foldr_cons, List.foldr_nil, con_updW, ↓ixC_ownD, ↓oIx_tup, ↓oIx_lst, ↓oIx_str, ↓lenC_ownL, ↓lenC_ownD, ↓setC_ownD, putC_adr, Own_lst_inj, Con_own_inj, updW_upd, Nat.reduceSub, Nat.sub_self, ↓itD_lst, ↓itD_tup, ↓oInt_i, ↓oCmp_i, ↓oAdd_i, ↓oAdd_s, ↓oAdd_t, ↓oAdd_l, ↓oNeg_i, ↓o1I_i, ↓o2I_i, ↓oSl_t, ↓oSl_l, ↓oList_t, ↓oList_l, ↓oTuple_t, ↓oTuple_l, ↓oIn_t, ↓oIn_l, ↓oIsN_n, ↓ixC_ownLi, ↓setC_ownLi, ixN20, ixN21, ex_int1, ex_int2, ↓pSet_eq, ↓ixK_tup, ↓ixK_lst, ↓ixK_str, ↓ixK_dct, ↓lenK_tup, ↓lenK_lst, ↓lenK_str, ↓pSetO_eq, ↓pPar_eq, ↓kPar_mk, ↓pVarV0, ↓pVarV1, ↓pVarL0, ↓pVarL1, ↓pVarD0, ↓pVarD1, ↓pkVarV0, ↓pkVarV1, ↓pkVarO0, ↓pkVarO1, ↓kSetN0, ↓kSetN1, ↓kSetO_N0, ↓kSetO_N1, ↓pgNameN0, ↓pgNameN1, ↓ixS0, ↓ixS1, ↓lenS0, ↓lenS1, ↓setS0, ↓setS1, ↓conS0, ↓conS1, ↓putS0, ↓putS1]
    exact fin z W' h1 h2 h3
  | _ => cases hd
abbrev s__law_simple : Stmt := topS 29
abbrev N__law_simple : List Str := ["source", "way", "number"]
theorem sc__law_simple : FnScope N__law_simple ["source"] (defScope s__law_simple) := ⟨rfl, rfl, rfl, by decide +kernel, rfl, by decide +kernel, by decide +kernel⟩
theorem ok__law_simple  {k : Nat}  (T : TopD K mg "_law_simple" ["source"] s__law_simple) (c__law_of : CallF P w K mg base "_law_of" 2 k (φ__law_of)) (c__law_draw : CallF P w K mg base "_law_draw" 2 k (φ__law_draw))  :
    CallF P w K mg base "_law_simple" 1 (k + 1) (φ__law_simple) := by
  refine call_of (N := N__law_simple) (k := k) T sc__law_simple fun f cdv A outer s H E hr => ⟨_, (pmss_cons (pms_par (i := 1) (j := 2) (fun W t => ps_par (i := 1) (j := 2) rfl sc__law_simple.nd rfl rfl (by decide) rfl rfl ((pma_cons (pm_callF c__law_draw hr (by rfl) (pma_cons (pm_var (pv 0)) (pma_cons pm_int pma_nil))) (pma_cons (pm_op od_add pm_int (pm_callF c__law_draw hr (by rfl) (pma_cons (pm_var (pv 0)) (pma_cons (pm_callF c__law_of hr (by rfl) (pma_cons (pm_var (pv 0)) (pma_cons (pm_lst (pma_cons pm_int (pma_cons pm_int (pma_cons pm_int pma_nil)))) pma_nil))) pma_nil)))) pma_nil)) W t) (by rfl)))
      (pmss_cons (pms_if (pmt_cmp od_lt (pm_var (pv 1)) pm_int (nomark _)) (pmss_one (pms_ret (pm_tup (pma_cons (pm_callF c__law_of hr (by rfl) (pma_cons (pm_var (pv 0)) (pma_cons (pm_lst (pma_cons pm_str (pma_cons pm_str (pma_cons pm_str (pma_cons pm_str (pma_cons pm_str pma_nil)))))) pma_nil))) (pma_cons (pm_var (pv 2)) pma_nil))))) pmss_nil)
      (pmss_cons (pms_if (pmt_cmp od_lt (pm_var (pv 1)) pm_int (nomark _)) (pmss_one (pms_ret (pm_tup (pma_cons pm_str pma_nil)))) pmss_nil)
      (pmss_one (pms_ret (pm_tup (pma_cons (pm_callF c__law_of hr (by rfl) (pma_cons (pm_var (pv 0)) (pma_cons (pm_lst (pma_cons pm_str (pma_cons pm_str pma_nil))) pma_nil))) pma_nil))))))), ?_⟩
  rintro ds Wo Q E' - ⟨a, rfl, hs, q⟩
  try simp only [↓pC, ↓pOp, ↓pUn, ↓pSl, ↓pPart, ↓pNil, ↓pCons, ↓pTup, ↓pLst, ↓pCallB, ↓pTest, ↓pNot, ↓pAnd, ↓pOr, ↓pAndV, ↓pOrV, ↓pNotV, ↓pIf, ↓pNext, ↓pSeq, ↓pBreak, ↓pCont, ↓pDrop, ↓pRet, ↓pRetN, ↓pIfS, ↓pgNil, ↓pgCons, ↓pgTup, ↓pAsg, ↓pRaise, ↓pCall, ↓pIter, ↓pFor, ↓pLc, ↓pYes, ↓pkOf, ↓pIxK, ↓pTabG, ↓pLenK, ↓pChain, ↓pStore, ↓pAppend, ↓pPop, ↓poLst, ↓poDct, ↓pNewW, ↓pRng1, ↓pRng2, ↓pTry, ↓pTryAs, ↓oEq, ↓oNe, ↓oLen, ↓oSum, ↓oAll, ↓oAny, ↓oIsi, start0, List.map_cons, List.map_nil, List.length_cons, List.length_nil, List.cons_append, List.nil_append, List.getElem?_cons_zero, List.getElem?_cons_succ, List.set_cons_zero, List.set_cons_succ, List.replicate, D.bl.injEq, D.int.injEq, D.str.injEq, D.tup.injEq, D.lst.injEq, exists_eq_left', exists_eq_left, Option.some.injEq, Bool.false_eq_true, if_true, if_false, true_and, and_true, false_and, and_false, isi_int, isi_bool, isi_str, isi_tuple, isi_list, isiT_int, isiT_bool, isiT_str, isiT_tuple, isiT_list, Bool.not_true, Bool.not_false, dat_non, dat_bl, dat_int, dat_str, dat_tup, dat_lst, isInt_non, isInt_bl, isInt_int, isInt_str, isInt_tup, isInt_lst, isBool_non, isBool_bl, isBool_int, isBool_str, isBool_tup, isBool_lst, isStr_non, isStr_bl, isStr_int, isStr_str, isStr_tup, isStr_lst, isTup_non, isTup_bl, isTup_int, isTup_str, isTup_tup, isTup_lst, isLst_non, isLst_bl, isLst_int, isLst_str, isLst_tup, isLst_lst, Nat.reduceAdd, Nat.zero_add, sz_0, sz_1, sz_2, sz_3, sz_4, sz_5, sz_6, sz_7, sz_8, sz_9, sz_10, sz_11, sz_12, List.any_cons, List.any_nil, eqD_tup, eqD_str, eqD_int, eqDs_cons, eqDs_nil, eqDs_cn, eqDs_nc, Bool.or_false, Bool.and_true, at0, at1, at2, at3, at4, good_int, good_bl, good_nil, good_nilL, good_non, eqDs_nil_r, eqDs_nil_l, List.isEmpty_nil, List.isEmpty_cons, Bool.and_false, Bool.or_true, Bool.false_or, Bool.true_or, Bool.false_and, Bool.true_and, encB, wipS_mk, List.foldr_cons, List.foldr_nil, con_updW, ↓ixC_ownD, ↓oIx_tup, ↓oIx_lst, ↓oIx_str, ↓lenC_ownL, ↓lenC_ownD, ↓setC_ownD, putC_adr, Own_lst_inj, Con_own_inj, updW_upd, Nat.reduceSub, Nat.sub_self, ↓itD_lst, ↓itD_tup, ↓oInt_i, ↓oCmp_i, ↓oAdd_i, ↓oAdd_s, ↓oAdd_t, ↓oAdd_l, ↓oNeg_i, ↓o1I_i, ↓o2I_i, ↓oSl_t, ↓oSl_l, ↓oList_t, ↓oList_l, ↓oTuple_t, ↓oTuple_l, ↓oIn_t, ↓oIn_l, ↓oIsN_n, ↓ixC_ownLi, ↓setC_ownLi, ixN20, ixN21, ex_int1, ex_int2, ↓pSet_eq, ↓ixK_tup, ↓ixK_lst, ↓ixK_str, ↓ixK_dct, ↓lenK_tup, ↓lenK_lst, ↓lenK_str, ↓pSetO_eq, ↓pPar_eq, ↓kPar_mk, ↓pVarV0, ↓pVarV1, ↓pVarV2, ↓pVarL0, ↓pVarL1, ↓pVarL2, ↓pVarD0, ↓pVarD1, ↓pVarD2, ↓pkVarV0, ↓pkVarV1, ↓pkVarV2, ↓pkVarO0, ↓pkVarO1, ↓pkVarO2, ↓kSetN0, ↓kSetN1, ↓kSetN2, ↓kSetO_N0, ↓kSetO_N1, ↓kSetO_N2, ↓pgNameN0, ↓pgNameN1, ↓pgNameN2, ↓ixS0, ↓ixS1, ↓ixS2, ↓lenS0, ↓lenS1, ↓lenS2, ↓setS0, ↓setS1, ↓setS2, ↓conS0, ↓conS1, ↓conS2, ↓putS0, ↓putS1, ↓putS2]
  refine ⟨a, _, rfl, by decide, by decide, hs, fun w W1 w1 w2 d1 => ?_⟩
  refine ⟨a, _, _, rfl, rfl, by simp, by decide, d1.src, fun z W2 hz d2 => ?_⟩
  have d12 := d1.trans d2
  obtain ⟨z, rfl, z1, z2⟩ : ∃ n : Int, z = .int n ∧ 0 < n ∧ n ≤ 8 := by
    simp only [List.mem_cons, List.not_mem_nil, or_false] at hz
    rcases hz with rfl | rfl | rfl <;> exact ⟨_, rfl, by decide, by decide⟩
  refine ⟨a, _, rfl, z1, by omega, d2.src, fun n W3 n1 n2 d3 => ?_⟩
  have d123 := d12.trans d3
  have hin : inR 1 8 (1 + n) = true := by simp only [inR, Bool.and_eq_true, decide_eq_true_eq]; omega
  try simp only [↓pC, ↓pOp, ↓pUn, ↓pSl, ↓pPart, ↓pNil, ↓pCons, ↓pTup, ↓pLst, ↓pCallB, ↓pTest, ↓pNot, ↓pAnd, ↓pOr, ↓pAndV, ↓pOrV, ↓pNotV, ↓pIf, ↓pNext, ↓pSeq, ↓pBreak, ↓pCont, ↓pDrop, ↓pRet, ↓pRetN, ↓pIfS, ↓pgNil, ↓pgCons, ↓pgTup, ↓pAsg, ↓pRaise, ↓pCall, ↓pIter, ↓pFor, ↓pLc, ↓pYes, ↓pkOf, ↓pIxK, ↓pTabG, ↓pLenK, ↓pChain, ↓pStore, ↓pAppend, ↓pPop, ↓poLst, ↓poDct, ↓pNewW, ↓pRng1, ↓pRng2, ↓pTry, ↓pTryAs, ↓oEq, ↓oNe, ↓oLen, ↓oSum, ↓oAll, ↓oAny, ↓oIsi, start0, List.map_cons, List.map_nil, List.length_cons, List.length_nil, List.cons_append, List.nil_append, List.getElem?_cons_zero, List.getElem?_cons_succ, List.set_cons_zero, List.set_cons_succ, List.replicate, D.bl.injEq, D.int.injEq, D.str.injEq, D.tup.injEq, D.lst.injEq, exists_eq_left', exists_eq_left, Option.some.injEq, Bool.false_eq_true, if_true, if_false, true_and, and_true, false_and, and_false, isi_int, isi_bool, isi_str, isi_tuple, isi_list, isiT_int, isiT_bool, isiT_str, isiT_tuple, isiT_list, Bool.not_true, Bool.not_false, dat_non, dat_bl, dat_int, dat_str, dat_tup, dat_lst, isInt_non, isInt_bl, isInt_int, isInt_str, isInt_tup, isInt_lst, isBool_non, isBool_bl, isBool_int, isBool_str, isBool_tup, isBool_lst, isStr_non, isStr_bl, isStr_int, isStr_str, isStr_tup, isStr_lst, isTup_non, isTup_bl, isTup_int, isTup_str, isTup_tup, isTup_lst, isLst_non, isLst_bl, isLst_int, isLst_str, isLst_tup, isLst_lst, Nat.reduceAdd, Nat.zero_add, sz_0, sz_1, sz_2, sz_3, sz_4, sz_5, sz_6, sz_7, sz_8, sz_9, sz_10, sz_11, sz_12, List.any_cons, List.any_nil, eqD_tup, eqD_str, eqD_int, eqDs_cons, eqDs_nil, eqDs_cn, eqDs_nc, Bool.or_false, Bool.and_true, at0, at1, at2, at3, at4, good_int, good_bl, good_nil, good_nilL, good_non, eqDs_nil_r, eqDs_nil_l, List.isEmpty_nil, List.isEmpty_cons, Bool.and_false, Bool.or_true, Bool.false_or, Bool.true_or, Bool.false_and, Bool.true_and, encB, wipS_mk, List.foldr_cons, List.foldr_nil, con_updW, ↓ixC_ownD, ↓oIx_tup, ↓oIx_lst, ↓oIx_str, ↓lenC_ownL, ↓lenC_ownD, ↓setC_ownD, putC_adr, Own_lst_inj, Con_own_inj, updW_upd, Nat.reduceSub, Nat.sub_self, ↓itD_lst, ↓itD_tup, ↓oInt_i, ↓oCmp_i, ↓oAdd_i, ↓oAdd_s, ↓oAdd_t, ↓oAdd_l, ↓oNeg_i, ↓o1I_i, ↓o2I_i, ↓oSl_t, ↓oSl_l, ↓oList_t, ↓oList_l, ↓oTuple_t, ↓oTuple_l, ↓oIn_t, ↓oIn_l, ↓oIsN_n, ↓ixC_ownLi, ↓setC_ownLi, ixN20, ixN21, ex_int1, ex_int2, ↓pSet_eq, ↓ixK_tup, ↓ixK_lst, ↓ixK_str, ↓ixK_dct, ↓lenK_tup, ↓lenK_lst, ↓lenK_str, ↓pSetO_eq, ↓pPar_eq, ↓kPar_mk, ↓pVarV0, ↓pVarV1, ↓pVarV2, ↓pVarL0, ↓pVarL1, ↓pVarL2, ↓pVarD0, ↓pVarD1, ↓pVarD2, ↓pkVarV0, ↓pkVarV1, ↓pkVarV2, ↓pkVarO0, ↓pkVarO1, ↓pkVarO2, ↓kSetN0, ↓kSetN1, ↓kSetN2, ↓kSetO_N0, ↓kSetO_N1, ↓kSetO_N2, ↓pgNameN0, ↓pgNameN1, ↓pgNameN2, ↓ixS0, ↓ixS1, ↓ixS2, ↓lenS0, ↓lenS1, ↓lenS2, ↓setS0, ↓setS1, ↓setS2, ↓conS0, ↓conS1, ↓conS2, ↓putS0, ↓putS1, ↓putS2]
  refine ite2 (fun _ => ?_) (fun _ => ite2 (fun _ => ?_) (fun _ => ?_))
  · refine ⟨a, _, _, rfl, rfl, by simp, by decide, d3.src, fun x W4 hx d4 => ?_⟩
    have dd := d123.trans d4
    simp only [List.mem_cons, List.not_mem_nil, or_false] at hx
    rcases hx with rfl | rfl | rfl | rfl | rfl
    · exact q (.wait _) _ hin dd
    · exact q (.rest _) _ hin dd
    · exact q (.move _) _ hin dd
    · exact q (.ahead _) _ hin dd
    · exact q (.set _) _ hin dd
  · exact q .until _ rfl d123
  · refine ⟨a, _, _, rfl, rfl, by simp, by decide, d3.src, fun x W4 hx d4 => ?_⟩
    have dd := d123.trans d4
    simp only [List.mem_cons, List.not_mem_nil, or_false] at hx
    rcases hx with rfl | rfl
    · exact q .up _ rfl dd
    · exact q .down _ rfl dd
abbrev s__law_body : Stmt := topS 30
abbrev N__law_body : List Str := ["source", "deep", "most", "found", "turn", "statement", "test"]
theorem sc__law_body : FnScope N__law_body ["source", "deep", "most"] (defScope s__law_body) := ⟨rfl, rfl, rfl, by decide +kernel, rfl, by decide +kernel, by decide +kernel⟩
theorem ok__law_body {d : Nat} {k : Nat}  (T : TopD K mg "_law_body" ["source", "deep", "most"] s__law_body) (m_range : mg "range" = none) (c__law_draw : CallF P w K mg base "_law_draw" 2 k (φ__law_draw)) (c__law_body : CallF P w K mg base "_law_body" 3 k (lowφ 2 φ__law_body d)) (c__law_of : CallF P w K mg base "_law_of" 2 k (φ__law_of)) (c__law_simple : CallF P w K mg base "_law_simple" 1 k (φ__law_simple)) (hd : 1 ≤ d) :
    CallF P w K mg base "_law_body" 3 (k + 1) (φ__law_body d) := by
  refine call_of (N := N__law_body) (k := k) T sc__law_body fun f cdv A outer s H E hr => ⟨_, (pmss_cons (pms_set (i := 3) (fun W t => ps_set (i := 3) sc__law_body.nd rfl (.inl rfl) ((pm_tup pma_nil) W t)))
      (pmss_cons (pms_for (passes_of rfl) rfl (pmi_range1 (by rfl) m_range (pma_cons (pm_callF c__law_draw hr (by rfl) (pma_cons (pm_var (pv 0)) (pma_cons (pm_op od_add (pm_var (pv 2)) pm_int) pma_nil))) pma_nil)) (pmg_of (vs := [4]) (pg_name (i := 4) sc__law_body.nd rfl (.inl rfl)))
      (pmss_cons (pms_set (i := 5) (fun W t => ps_set (i := 5) sc__law_body.nd rfl (.inl rfl) ((pm_callF c__law_simple hr (by rfl) (pma_cons (pm_var (pv 0)) pma_nil)) W t)))
      (pmss_cons (pms_if (pmt_w (pmw_and (pmt_cmp od_gt (pm_var (pv 1)) pm_int (nomark _)) (pmw_and1 (pmt_cmp (od_eq (Room.hu64 hr)) (pm_callF c__law_draw hr (by rfl) (pma_cons (pm_var (pv 0)) (pma_cons pm_int pma_nil))) pm_int (nomark _))))) (pmss_cons (pms_set (i := 6) (fun W t => ps_set (i := 6) sc__law_body.nd rfl (.inl rfl) ((pm_callF c__law_of hr (by rfl) (pma_cons (pm_var (pv 0)) (pma_cons (pm_lst (pma_cons (pm_tup (pma_cons pm_str pma_nil)) (pma_cons (pm_tup (pma_cons pm_str pma_nil)) (pma_cons (pm_tup (pma_cons pm_str (pma_cons (pm_callF c__law_draw hr (by rfl) (pma_cons (pm_var (pv 0)) (pma_cons pm_int pma_nil))) pma_nil))) pma_nil)))) pma_nil))) W t)))
      (pmss_one (pms_set (i := 5) (fun W t => ps_set (i := 5) sc__law_body.nd rfl (.inl rfl) ((pm_tup (pma_cons pm_str (pma_cons (pm_var (pv 6)) (pma_cons (pm_callF c__law_body hr (by rfl) (pma_cons (pm_var (pv 0)) (pma_cons (pm_op od_sub (pm_var (pv 1)) pm_int) (pma_cons pm_int pma_nil)))) (pma_cons (pm_callF c__law_body hr (by rfl) (pma_cons (pm_var (pv 0)) (pma_cons (pm_op od_sub (pm_var (pv 1)) pm_int) (pma_cons pm_int pma_nil)))) pma_nil))))) W t))))) pmss_nil)
      (pmss_one (pms_set (i := 3) (fun W t => ps_set (i := 3) sc__law_body.nd rfl (.inl rfl) ((pm_op od_add (pm_var (pv 3)) (pm_tup (pma_cons (pm_var (pv 5)) pma_nil))) W t)))))))
      (pmss_one (pms_ret (pm_var (pv 3)))))), ?_⟩
  rintro ds Wo Q E' - ⟨a, m, rfl, h0, h8, hs, q⟩
  try simp only [↓pC, ↓pOp, ↓pUn, ↓pSl, ↓pPart, ↓pNil, ↓pCons, ↓pTup, ↓pLst, ↓pCallB, ↓pTest, ↓pNot, ↓pAnd, ↓pOr, ↓pAndV, ↓pOrV, ↓pNotV, ↓pIf, ↓pNext, ↓pSeq, ↓pBreak, ↓pCont, ↓pDrop, ↓pRet, ↓pRetN, ↓pIfS, ↓pgNil, ↓pgCons, ↓pgTup, ↓pAsg, ↓pRaise, ↓pCall, ↓pIter, ↓pFor, ↓pLc, ↓pYes, ↓pkOf, ↓pIxK, ↓pTabG, ↓pLenK, ↓pChain, ↓pStore, ↓pAppend, ↓pPop, ↓poLst, ↓poDct, ↓pNewW, ↓pRng1, ↓pRng2, ↓pTry, ↓pTryAs, ↓oEq, ↓oNe, ↓oLen, ↓oSum, ↓oAll, ↓oAny, ↓oIsi, start0, List.map_cons, List.map_nil, List.length_cons, List.length_nil, List.cons_append, List.nil_append, List.getElem?_cons_zero, List.getElem?_cons_succ, List.set_cons_zero, List.set_cons_succ, List.replicate, D.bl.injEq, D.int.injEq, D.str.injEq, D.tup.injEq, D.lst.injEq, exists_eq_left', exists_eq_left, Option.some.injEq, Bool.false_eq_true, if_true, if_false, true_and, and_true, false_and, and_false, isi_int, isi_bool, isi_str, isi_tuple, isi_list, isiT_int, isiT_bool, isiT_str, isiT_tuple, isiT_list, Bool.not_true, Bool.not_false, dat_non, dat_bl, dat_int, dat_str, dat_tup, dat_lst, isInt_non, isInt_bl, isInt_int, isInt_str, isInt_tup, isInt_lst, isBool_non, isBool_bl, isBool_int, isBool_str, isBool_tup, isBool_lst, isStr_non, isStr_bl, isStr_int, isStr_str, isStr_tup, isStr_lst, isTup_non, isTup_bl, isTup_int, isTup_str, isTup_tup, isTup_lst, isLst_non, isLst_bl, isLst_int, isLst_str, isLst_tup, isLst_lst, Nat.reduceAdd, Nat.zero_add, sz_0, sz_1, sz_2, sz_3, sz_4, sz_5, sz_6, sz_7, sz_8, sz_9, sz_10, sz_11, sz_12, List.any_cons, List.any_nil, eqD_tup, eqD_str, eqD_int, eqDs_cons, eqDs_nil, eqDs_cn, eqDs_nc, Bool.or_false, Bool.and_true, at0, at1, at2, at3, at4, good_int, good_bl, good_nil, good_nilL, good_non, eqDs_nil_r, eqDs_nil_l, List.isEmpty_nil, List.isEmpty_cons, Bool.and_false, Bool.or_true, Bool.false_or, Bool.true_or, Bool.false_and, Bool.true_and, encB, wipS_mk, List.foldr_cons, List.foldr_nil, con_updW, ↓ixC_ownD, ↓oIx_tup, ↓oIx_lst, ↓oIx_str, ↓lenC_ownL, ↓lenC_ownD, ↓setC_ownD, putC_adr, Own_lst_inj, Con_own_inj, updW_upd, Nat.reduceSub, Nat.sub_self, ↓itD_lst, ↓itD_tup, ↓oInt_i, ↓oCmp_i, ↓oAdd_i, ↓oAdd_s, ↓oAdd_t, ↓oAdd_l, ↓oNeg_i, ↓o1I_i, ↓o2I_i, ↓oSl_t, ↓oSl_l, ↓oList_t, ↓oList_l, ↓oTuple_t, ↓oTuple_l, ↓oIn_t, ↓oIn_l, ↓oIsN_n, ↓ixC_ownLi, ↓setC_ownLi, ixN20, ixN21, ex_int1, ex_int2, ↓pSet_eq, ↓ixK_tup, ↓ixK_lst, ↓ixK_str, ↓ixK_dct, ↓lenK_tup, ↓lenK_lst, ↓lenK_str, ↓pSetO_eq, ↓pPar_eq, ↓kPar_mk, ↓pVarV0, ↓pVarV1, ↓pVarV2, ↓pVarV3, ↓pVarV4, ↓pVarV5, ↓pVarV6, ↓pVarL0, ↓pVarL1, ↓pVarL2, ↓pVarL3, ↓pVarL4, ↓pVarL5, ↓pVarL6, ↓pVarD0, ↓pVarD1, ↓pVarD2, ↓pVarD3, ↓pVarD4, ↓pVarD5, ↓pVarD6, ↓pkVarV0, ↓pkVarV1, ↓pkVarV2, ↓pkVarV3, ↓pkVarV4, ↓pkVarV5, ↓pkVarV6, ↓pkVarO0, ↓pkVarO1, ↓pkVarO2, ↓pkVarO3, ↓pkVarO4, ↓pkVarO5, ↓pkVarO6, ↓kSetN0, ↓kSetN1, ↓kSetN2, ↓kSetN3, ↓kSetN4, ↓kSetN5, ↓kSetN6, ↓kSetO_N0, ↓kSetO_N1, ↓kSetO_N2, ↓kSetO_N3, ↓kSetO_N4, ↓kSetO_N5, ↓kSetO_N6, ↓pgNameN0, ↓pgNameN1, ↓pgNameN2, ↓pgNameN3, ↓pgNameN4, ↓pgNameN5, ↓pgNameN6, ↓ixS0, ↓ixS1, ↓ixS2, ↓ixS3, ↓ixS4, ↓ixS5, ↓ixS6, ↓lenS0, ↓lenS1, ↓lenS2, ↓lenS3, ↓lenS4, ↓lenS5, ↓lenS6, ↓setS0, ↓setS1, ↓setS2, ↓setS3, ↓setS4, ↓setS5, ↓setS6, ↓conS0, ↓conS1, ↓conS2, ↓conS3, ↓conS4, ↓conS5, ↓conS6, ↓putS0, ↓putS1, ↓putS2, ↓putS3, ↓putS4, ↓putS5, ↓putS6]
  refine ⟨a, _, rfl, by omega, by omega, hs, fun n W1 n1 n2 d1 => ?_⟩
  try simp only [↓pC, ↓pOp, ↓pUn, ↓pSl, ↓pPart, ↓pNil, ↓pCons, ↓pTup, ↓pLst, ↓pCallB, ↓pTest, ↓pNot, ↓pAnd, ↓pOr, ↓pAndV, ↓pOrV, ↓pNotV, ↓pIf, ↓pNext, ↓pSeq, ↓pBreak, ↓pCont, ↓pDrop, ↓pRet, ↓pRetN, ↓pIfS, ↓pgNil, ↓pgCons, ↓pgTup, ↓pAsg, ↓pRaise, ↓pCall, ↓pIter, ↓pFor, ↓pLc, ↓pYes, ↓pkOf, ↓pIxK, ↓pTabG, ↓pLenK, ↓pChain, ↓pStore, ↓pAppend, ↓pPop, ↓poLst, ↓poDct, ↓pNewW, ↓pRng1, ↓pRng2, ↓pTry, ↓pTryAs, ↓oEq, ↓oNe, ↓oLen, ↓oSum, ↓oAll, ↓oAny, ↓oIsi, start0, List.map_cons, List.map_nil, List.length_cons, List.length_nil, List.cons_append, List.nil_append, List.getElem?_cons_zero, List.getElem?_cons_succ, List.set_cons_zero, List.set_cons_succ, List.replicate, D.bl.injEq, D.int.injEq, D.str.injEq, D.tup.injEq, D.lst.injEq, exists_eq_left', exists_eq_left, Option.some.injEq, Bool.false_eq_true, if_true, if_false, true_and, and_true, false_and, and_false, isi_int, isi_bool, isi_str, isi_tuple, isi_list, isiT_int, isiT_bool, isiT_str, isiT_tuple, isiT_list, Bool.not_true, Bool.not_false, dat_non, dat_bl, dat_int, dat_str, dat_tup, dat_lst, isInt_non, isInt_bl, isInt_int, isInt_str, isInt_tup, isInt_lst, isBool_non, isBool_bl, isBool_int, isBool_str, isBool_tup, isBool_lst, isStr_non, isStr_bl, isStr_int, isStr_str, isStr_tup, isStr_lst, isTup_non, isTup_bl, isTup_int, isTup_str, isTup_tup, isTup_lst, isLst_non, isLst_bl, isLst_int, isLst_str, isLst_tup, isLst_lst, Nat.reduceAdd, Nat.zero_add, sz_0, sz_1, sz_2, sz_3, sz_4, sz_5, sz_6, sz_7, sz_8, sz_9, sz_10, sz_11, sz_12, List.any_cons, List.any_nil, eqD_tup, eqD_str, eqD_int, eqDs_cons, eqDs_nil, eqDs_cn, eqDs_nc, Bool.or_false, Bool.and_true, at0, at1, at2, at3, at4, good_int, good_bl, good_nil, good_nilL, good_non, eqDs_nil_r, eqDs_nil_l, List.isEmpty_nil, List.isEmpty_cons, Bool.and_false, Bool.or_true, Bool.false_or, Bool.true_or, Bool.false_and, Bool.true_and, encB, wipS_mk, List.foldr_cons, List.foldr_nil, con_updW, ↓ixC_ownD, ↓oIx_tup, ↓oIx_lst, ↓oIx_str, ↓lenC_ownL, ↓lenC_ownD, ↓setC_ownD, putC_adr, Own_lst_inj, Con_own_inj, updW_upd, Nat.reduceSub, Nat.sub_self, ↓itD_lst, ↓itD_tup, ↓oInt_i, ↓oCmp_i, ↓oAdd_i, ↓oAdd_s, ↓oAdd_t, ↓oAdd_l, ↓oNeg_i, ↓o1I_i, ↓o2I_i, ↓oSl_t, ↓oSl_l, ↓oList_t, ↓oList_l, ↓oTuple_t, ↓oTuple_l, ↓oIn_t, ↓oIn_l, ↓oIsN_n, ↓ixC_ownLi, ↓setC_ownLi, ixN20, ixN21, ex_int1, ex_int2, ↓pSet_eq, ↓ixK_tup, ↓ixK_lst, ↓ixK_str, ↓ixK_dct, ↓lenK_tup, ↓lenK_lst, ↓lenK_str, ↓pSetO_eq, ↓pPar_eq, ↓kPar_mk, ↓pVarV0, ↓pVarV1, ↓pVarV2, ↓pVarV3, ↓pVarV4, ↓pVarV5, ↓pVarV6, ↓pVarL0, ↓pVarL1, ↓pVarL2, ↓pVarL3, ↓pVarL4, ↓pVarL5, ↓pVarL6, ↓pVarD0, ↓pVarD1, ↓pVarD2, ↓pVarD3, ↓pVarD4, ↓pVarD5, ↓pVarD6, ↓pkVarV0, ↓pkVarV1, ↓pkVarV2, ↓pkVarV3, ↓pkVarV4, ↓pkVarV5, ↓pkVarV6, ↓pkVarO0, ↓pkVarO1, ↓pkVarO2, ↓pkVarO3, ↓pkVarO4, ↓pkVarO5, ↓pkVarO6, ↓kSetN0, ↓kSetN1, ↓kSetN2, ↓kSetN3, ↓kSetN4, ↓kSetN5, ↓kSetN6, ↓kSetO_N0, ↓kSetO_N1, ↓kSetO_N2, ↓kSetO_N3, ↓kSetO_N4, ↓kSetO_N5, ↓kSetO_N6, ↓pgNameN0, ↓pgNameN1, ↓pgNameN2, ↓pgNameN3, ↓pgNameN4, ↓pgNameN5, ↓pgNameN6, ↓ixS0, ↓ixS1, ↓ixS2, ↓ixS3, ↓ixS4, ↓ixS5, ↓ixS6, ↓lenS0, ↓lenS1, ↓lenS2, ↓lenS3, ↓lenS4, ↓lenS5, ↓lenS6, ↓setS0, ↓setS1, ↓setS2, ↓setS3, ↓setS4, ↓setS5, ↓setS6, ↓conS0, ↓conS1, ↓conS2, ↓conS3, ↓conS4, ↓conS5, ↓conS6, ↓putS0, ↓putS1, ↓putS2, ↓putS3, ↓putS4, ↓putS5, ↓putS6]
  refine ⟨⟨by omega, by omega⟩, ?_⟩
  refine forW_range (fun i S => ∃ b W s4 s5 s6, okB d b = true ∧ b.length = i ∧ Dr Wo a W ∧ S = ⟨[.val (.adr a), .val (.int d), .val (.int m), .val (encB b), s4, s5, s6], W⟩) ?_ ?_ ⟨[], W1, _, _, _, rfl, rfl, d1, rfl⟩
  · rintro S ⟨b, W, s4, s5, s6, hb, hl, dr, rfl⟩
    try simp only [↓pC, ↓pOp, ↓pUn, ↓pSl, ↓pPart, ↓pNil, ↓pCons, ↓pTup, ↓pLst, ↓pCallB, ↓pTest, ↓pNot, ↓pAnd, ↓pOr, ↓pAndV, ↓pOrV, ↓pNotV, ↓pIf, ↓pNext, ↓pSeq, ↓pBreak, ↓pCont, ↓pDrop, ↓pRet, ↓pRetN, ↓pIfS, ↓pgNil, ↓pgCons, ↓pgTup, ↓pAsg, ↓pRaise, ↓pCall, ↓pIter, ↓pFor, ↓pLc, ↓pYes, ↓pkOf, ↓pIxK, ↓pTabG, ↓pLenK, ↓pChain, ↓pStore, ↓pAppend, ↓pPop, ↓poLst, ↓poDct, ↓pNewW, ↓pRng1, ↓pRng2, ↓pTry, ↓pTryAs, ↓oEq, ↓oNe, ↓oLen, ↓oSum, ↓oAll, ↓oAny, ↓oIsi, start0, List.map_cons, List.map_nil, List.length_cons, List.length_nil, List.cons_append, List.nil_append, List.getElem?_cons_zero, List.getElem?_cons_succ, List.set_cons_zero, List.set_cons_succ, List.replicate, D.bl.injEq, D.int.injEq, D.str.injEq, D.tup.injEq, D.lst.injEq, exists_eq_left', exists_eq_left, Option.some.injEq, Bool.false_eq_true, if_true, if_false, true_and, and_true, false_and, and_false, isi_int, isi_bool, isi_str, isi_tuple, isi_list, isiT_int, isiT_bool, isiT_str, isiT_tuple, isiT_list, Bool.not_true, Bool.not_false, dat_non, dat_bl, dat_int, dat_str, dat_tup, dat_lst, isInt_non, isInt_bl, isInt_int, isInt_str, isInt_tup, isInt_lst, isBool_non, isBool_bl, isBool_int, isBool_str, isBool_tup, isBool_lst, isStr_non, isStr_bl, isStr_int, isStr_str, isStr_tup, isStr_lst, isTup_non, isTup_bl, isTup_int, isTup_str, isTup_tup, isTup_lst, isLst_non, isLst_bl, isLst_int, isLst_str, isLst_tup, isLst_lst, Nat.reduceAdd, Nat.zero_add, sz_0, sz_1, sz_2, sz_3, sz_4, sz_5, sz_6, sz_7, sz_8, sz_9, sz_10, sz_11, sz_12, List.any_cons, List.any_nil, eqD_tup, eqD_str, eqD_int, eqDs_cons, eqDs_nil, eqDs_cn, eqDs_nc, Bool.or_false, Bool.and_true, at0, at1, at2, at3, at4, good_int, good_bl, good_nil, good_nilL, good_non, eqDs_nil_r, eqDs_nil_l, List.isEmpty_nil, List.isEmpty_cons, Bool.and_false, Bool.or_true, Bool.false_or, Bool.true_or, Bool.false_and, Bool.true_and, encB, wipS_mk, List.foldr_cons, List.foldr_nil, con_updW, ↓ixC_ownD, ↓oIx_tup, ↓oIx_lst, ↓oIx_str, ↓lenC_ownL, ↓lenC_ownD, ↓setC_ownD, putC_adr, Own_lst_inj, Con_own_inj, updW_upd, Nat.reduceSub, Nat.sub_self, ↓itD_lst, ↓itD_tup, ↓oInt_i, ↓oCmp_i, ↓oAdd_i, ↓oAdd_s, ↓oAdd_t, ↓oAdd_l, ↓oNeg_i, ↓o1I_i, ↓o2I_i, ↓oSl_t, ↓oSl_l, ↓oList_t, ↓oList_l, ↓oTuple_t, ↓oTuple_l, ↓oIn_t, ↓oIn_l, ↓oIsN_n, ↓ixC_ownLi, ↓setC_ownLi, ixN20, ixN21, ex_int1, ex_int2, ↓pSet_eq, ↓ixK_tup, ↓ixK_lst, ↓ixK_str, ↓ixK_dct, ↓lenK_tup, ↓lenK_lst, ↓lenK_str, ↓pSetO_eq, ↓pPar_eq, ↓kPar_mk, ↓pVarV0, ↓pVarV1, ↓pVarV2, ↓pVarV3, ↓pVarV4, ↓pVarV5, ↓pVarV6, ↓pVarL0, ↓pVarL1, ↓pVarL2, ↓pVarL3, ↓pVarL4, ↓pVarL5, ↓pVarL6, ↓pVarD0, ↓pVarD1, ↓pVarD2, ↓pVarD3, ↓pVarD4, ↓pVarD5, ↓pVarD6, ↓pkVarV0, ↓pkVarV1, ↓pkVarV2, ↓pkVarV3, ↓pkVarV4, ↓pkVarV5, ↓pkVarV6, ↓pkVarO0, ↓pkVarO1, ↓pkVarO2, ↓pkVarO3, ↓pkVarO4, ↓pkVarO5, ↓pkVarO6, ↓kSetN0, ↓kSetN1, ↓kSetN2, ↓kSetN3, ↓kSetN4, ↓kSetN5, ↓kSetN6, ↓kSetO_N0, ↓kSetO_N1, ↓kSetO_N2, ↓kSetO_N3, ↓kSetO_N4, ↓kSetO_N5, ↓kSetO_N6, ↓pgNameN0, ↓pgNameN1, ↓pgNameN2, ↓pgNameN3, ↓pgNameN4, ↓pgNameN5, ↓pgNameN6, ↓ixS0, ↓ixS1, ↓ixS2, ↓ixS3, ↓ixS4, ↓ixS5, ↓ixS6, ↓lenS0, ↓lenS1, ↓lenS2, ↓lenS3, ↓lenS4, ↓lenS5, ↓lenS6, ↓setS0, ↓setS1, ↓setS2, ↓setS3, ↓setS4, ↓setS5, ↓setS6, ↓conS0, ↓conS1, ↓conS2, ↓conS3, ↓conS4, ↓conS5, ↓conS6, ↓putS0, ↓putS1, ↓putS2, ↓putS3, ↓putS4, ↓putS5, ↓putS6]
    exact q b _ hb (by omega) dr
  · rintro i S K' hi ⟨b, W, s4, s5, s6, hb, hl, dr, rfl⟩ hK
    have fin : ∀ (s : Stm) W' s4 s6, okS d s = true → Dr Wo a W' → (encSs b).length + 1 ≤ sizeLine ∧ K' ⟨[.val (.adr a), .val (.int d), .val (.int m), .val (.tup (encSs b ++ [encS s])), s4, .val (encS s), s6], W'⟩ := fun s W' s4 s6 h1 h2 => by
      obtain ⟨hb1, hb2⟩ := okB_iff.mp hb
      refine ⟨by show _ ≤ 2 ^ 24; rw [encSs_map, List.length_map]; omega, hK _ ⟨b ++ [s], W', s4, .val (encS s), s6, okB_iff.mpr ⟨by simp; omega, fun x hx => ?_⟩, by simp; omega, h2, by rw [encB, encSs_map, encSs_map]; simp⟩⟩
      rcases List.mem_append.mp hx with hx | hx
      · exact hb2 x hx
      · rw [List.mem_singleton.mp hx]; exact h1
    try simp only [↓pC, ↓pOp, ↓pUn, ↓pSl, ↓pPart, ↓pNil, ↓pCons, ↓pTup, ↓pLst, ↓pCallB, ↓pTest, ↓pNot, ↓pAnd, ↓pOr, ↓pAndV, ↓pOrV, ↓pNotV, ↓pIf, ↓pNext, ↓pSeq, ↓pBreak, ↓pCont, ↓pDrop, ↓pRet, ↓pRetN, ↓pIfS, ↓pgNil, ↓pgCons, ↓pgTup, ↓pAsg, ↓pRaise, ↓pCall, ↓pIter, ↓pFor, ↓pLc, ↓pYes, ↓pkOf, ↓pIxK, ↓pTabG, ↓pLenK, ↓pChain, ↓pStore, ↓pAppend, ↓pPop, ↓poLst, ↓poDct, ↓pNewW, ↓pRng1, ↓pRng2, ↓pTry, ↓pTryAs, ↓oEq, ↓oNe, ↓oLen, ↓oSum, ↓oAll, ↓oAny, ↓oIsi, start0, List.map_cons, List.map_nil, List.length_cons, List.length_nil, List.cons_append, List.nil_append, List.getElem?_cons_zero, List.getElem?_cons_succ, List.set_cons_zero, List.set_cons_succ, List.replicate, D.bl.injEq, D.int.injEq, D.str.injEq, D.tup.injEq, D.lst.injEq, exists_eq_left', exists_eq_left, Option.some.injEq, Bool.false_eq_true, if_true, if_false, true_and, and_true, false_and, and_false, isi_int, isi_bool, isi_str, isi_tuple, isi_list, isiT_int, isiT_bool, isiT_str, isiT_tuple, isiT_list, Bool.not_true, Bool.not_false, dat_non, dat_bl, dat_int, dat_str, dat_tup, dat_lst, isInt_non, isInt_bl, isInt_int, isInt_str, isInt_tup, isInt_lst, isBool_non, isBool_bl, isBool_int, isBool_str, isBool_tup, isBool_lst, isStr_non, isStr_bl, isStr_int, isStr_str, isStr_tup, isStr_lst, isTup_non, isTup_bl, isTup_int, isTup_str, isTup_tup, isTup_lst, isLst_non, isLst_bl, isLst_int, isLst_str, isLst_tup, isLst_lst, Nat.reduceAdd, Nat.zero_add, sz_0, sz_1, sz_2, sz_3, sz_4, sz_5, sz_6, sz_7, sz_8, sz_9, sz_10, sz_11, sz_12, List.any_cons, List.any_nil, eqD_tup, eqD_str, eqD_int, eqDs_cons, eqDs_nil, eqDs_cn, eqDs_nc, Bool.or_false, Bool.and_true, at0, at1, at2, at3, at4, good_int, good_bl, good_nil, good_nilL, good_non, eqDs_nil_r, eqDs_nil_l, List.isEmpty_nil, List.isEmpty_cons, Bool.and_false, Bool.or_true, Bool.false_or, Bool.true_or, Bool.false_and, Bool.true_and, encB, wipS_mk, List.foldr_cons, List.foldr_nil, con_updW, ↓ixC_ownD, ↓oIx_tup, ↓oIx_lst, ↓oIx_str, ↓lenC_ownL, ↓lenC_ownD, ↓setC_ownD, putC_adr, Own_lst_inj, Con_own_inj, updW_upd, Nat.reduceSub, Nat.sub_self, ↓itD_lst, ↓itD_tup, ↓oInt_i, ↓oCmp_i, ↓oAdd_i, ↓oAdd_s, ↓oAdd_t, ↓oAdd_l, ↓oNeg_i, ↓o1I_i, ↓o2I_i, ↓oSl_t, ↓oSl_l, ↓oList_t, ↓oList_l, ↓oTuple_t, ↓oTuple_l, ↓oIn_t, ↓oIn_l, ↓oIsN_n, ↓ixC_ownLi, ↓setC_ownLi, ixN20, ixN21, ex_int1, ex_int2, ↓pSet_eq, ↓ixK_tup, ↓ixK_lst, ↓ixK_str, ↓ixK_dct, ↓lenK_tup, ↓lenK_lst, ↓lenK_str, ↓pSetO_eq, ↓pPar_eq, ↓kPar_mk, ↓pVarV0, ↓pVarV1, ↓pVarV2, ↓pVarV3, ↓pVarV4, ↓pVarV5, ↓pVarV6, ↓pVarL0, ↓pVarL1, ↓pVarL2, ↓pVarL3, ↓pVarL4, ↓pVarL5, ↓pVarL6, ↓pVarD0, ↓pVarD1, ↓pVarD2, ↓pVarD3, ↓pVarD4, ↓pVarD5, ↓pVarD6, ↓pkVarV0, ↓pkVarV1, ↓pkVarV2, ↓pkVarV3, ↓pkVarV4, ↓pkVarV5, ↓pkVarV6, ↓pkVarO0, ↓pkVarO1, ↓pkVarO2, ↓pkVarO3, ↓pkVarO4, ↓pkVarO5, ↓pkVarO6, ↓kSetN0, ↓kSetN1, ↓kSetN2, ↓kSetN3, ↓kSetN4, ↓kSetN5, ↓kSetN6, ↓kSetO_N0, ↓kSetO_N1, ↓kSetO_N2, ↓kSetO_N3, ↓kSetO_N4, ↓kSetO_N5, ↓kSetO_N6, ↓pgNameN0, ↓pgNameN1, ↓pgNameN2, ↓pgNameN3, ↓pgNameN4, ↓pgNameN5, ↓pgNameN6, ↓ixS0, ↓ixS1, ↓ixS2, ↓ixS3, ↓ixS4, ↓ixS5, ↓ixS6, ↓lenS0, ↓lenS1, ↓lenS2, ↓lenS3, ↓lenS4, ↓lenS5, ↓lenS6, ↓setS0, ↓setS1, ↓setS2, ↓setS3, ↓setS4, ↓setS5, ↓setS6, ↓conS0, ↓conS1, ↓conS2, ↓conS3, ↓conS4, ↓conS5, ↓conS6, ↓putS0, ↓putS1, ↓putS2, ↓putS3, ↓putS4, ↓putS5, ↓putS6]
    refine ⟨a, rfl, dr.src, fun s W2 hs2 d2 => ?_⟩
    have dr2 := dr.trans d2
    have hso : okS d s = true := by obtain ⟨e, rfl⟩ : ∃ e, d = e + 1 := ⟨d - 1, by omega⟩
                                    exact simS_ok hs2 e
    refine ite2 (fun hd1 => ?_) (fun hd1 => fin s _ _ _ hso dr2)
    have hd1 : 1 < (d : Int) := by simpa using hd1
    refine ⟨a, _, rfl, by decide, by decide, d2.src, fun n W3 n1 n2 d3 => ?_⟩
    have dr3 := dr2.trans d3
    try simp only [↓pC, ↓pOp, ↓pUn, ↓pSl, ↓pPart, ↓pNil, ↓pCons, ↓pTup, ↓pLst, ↓pCallB, ↓pTest, ↓pNot, ↓pAnd, ↓pOr, ↓pAndV, ↓pOrV, ↓pNotV, ↓pIf, ↓pNext, ↓pSeq, ↓pBreak, ↓pCont, ↓pDrop, ↓pRet, ↓pRetN, ↓pIfS, ↓pgNil, ↓pgCons, ↓pgTup, ↓pAsg, ↓pRaise, ↓pCall, ↓pIter, ↓pFor, ↓pLc, ↓pYes, ↓pkOf, ↓pIxK, ↓pTabG, ↓pLenK, ↓pChain, ↓pStore, ↓pAppend, ↓pPop, ↓poLst, ↓poDct, ↓pNewW, ↓pRng1, ↓pRng2, ↓pTry, ↓pTryAs, ↓oEq, ↓oNe, ↓oLen, ↓oSum, ↓oAll, ↓oAny, ↓oIsi, start0, List.map_cons, List.map_nil, List.length_cons, List.length_nil, List.cons_append, List.nil_append, List.getElem?_cons_zero, List.getElem?_cons_succ, List.set_cons_zero, List.set_cons_succ, List.replicate, D.bl.injEq, D.int.injEq, D.str.injEq, D.tup.injEq, D.lst.injEq, exists_eq_left', exists_eq_left, Option.some.injEq, Bool.false_eq_true, if_true, if_false, true_and, and_true, false_and, and_false, isi_int, isi_bool, isi_str, isi_tuple, isi_list, isiT_int, isiT_bool, isiT_str, isiT_tuple, isiT_list, Bool.not_true, Bool.not_false, dat_non, dat_bl, dat_int, dat_str, dat_tup, dat_lst, isInt_non, isInt_bl, isInt_int, isInt_str, isInt_tup, isInt_lst, isBool_non, isBool_bl, isBool_int, isBool_str, isBool_tup, isBool_lst, isStr_non, isStr_bl, isStr_int, isStr_str, isStr_tup, isStr_lst, isTup_non, isTup_bl, isTup_int, isTup_str, isTup_tup, isTup_lst, isLst_non, isLst_bl, isLst_int, isLst_str, isLst_tup, isLst_lst, Nat.reduceAdd, Nat.zero_add, sz_0, sz_1, sz_2, sz_3, sz_4, sz_5, sz_6, sz_7, sz_8, sz_9, sz_10, sz_11, sz_12, List.any_cons, List.any_nil, eqD_tup, eqD_str, eqD_int, eqDs_cons, eqDs_nil, eqDs_cn, eqDs_nc, Bool.or_false, Bool.and_true, at0, at1, at2, at3, at4, good_int, good_bl, good_nil, good_nilL, good_non, eqDs_nil_r, eqDs_nil_l, List.isEmpty_nil, List.isEmpty_cons, Bool.and_false, Bool.or_true, Bool.false_or, Bool.true_or, Bool.false_and, Bool.true_and, encB, wipS_mk, List.foldr_cons, List.foldr_nil, con_updW, ↓ixC_ownD, ↓oIx_tup, ↓oIx_lst, ↓oIx_str, ↓lenC_ownL, ↓lenC_ownD, ↓setC_ownD, putC_adr, Own_lst_inj, Con_own_inj, updW_upd, Nat.reduceSub, Nat.sub_self, ↓itD_lst, ↓itD_tup, ↓oInt_i, ↓oCmp_i, ↓oAdd_i, ↓oAdd_s, ↓oAdd_t, ↓oAdd_l, ↓oNeg_i, ↓o1I_i, ↓o2I_i, ↓oSl_t, ↓oSl_l, ↓oList_t, ↓oList_l, ↓oTuple_t, ↓oTuple_l, ↓oIn_t, ↓oIn_l, ↓oIsN_n, ↓ixC_ownLi, ↓setC_ownLi, ixN20, ixN21, ex_int1, ex_int2, ↓pSet_eq, ↓ixK_tup, ↓ixK_lst, ↓ixK_str, ↓ixK_dct, ↓lenK_tup, ↓lenK_lst, ↓lenK_str, ↓pSetO_eq, ↓pPar_eq, ↓kPar_mk, ↓pVarV0, ↓pVarV1, ↓pVarV2, ↓pVarV3, ↓pVarV4, ↓pVarV5, ↓pVarV6, ↓pVarL0, ↓pVarL1, ↓pVarL2, ↓pVarL3, ↓pVarL4, ↓pVarL5, ↓pVarL6, ↓pVarD0, ↓pVarD1, ↓pVarD2, ↓pVarD3, ↓pVarD4, ↓pVarD5, ↓pVarD6, ↓pkVarV0, ↓pkVarV1, ↓pkVarV2, ↓pkVarV3, ↓pkVarV4, ↓pkVarV5, ↓pkVarV6, ↓pkVarO0, ↓pkVarO1, ↓pkVarO2, ↓pkVarO3, ↓pkVarO4, ↓pkVarO5, ↓pkVarO6, ↓kSetN0, ↓kSetN1, ↓kSetN2, ↓kSetN3, ↓kSetN4, ↓kSetN5, ↓kSetN6, ↓kSetO_N0, ↓kSetO_N1, ↓kSetO_N2, ↓kSetO_N3, ↓kSetO_N4, ↓kSetO_N5, ↓kSetO_N6, ↓pgNameN0, ↓pgNameN1, ↓pgNameN2, ↓pgNameN3, ↓pgNameN4, ↓pgNameN5, ↓pgNameN6, ↓ixS0, ↓ixS1, ↓ixS2, ↓ixS3, ↓ixS4, ↓ixS5, ↓ixS6, ↓lenS0, ↓lenS1, ↓lenS2, ↓lenS3, ↓lenS4, ↓lenS5, ↓lenS6, ↓setS0, ↓setS1, ↓setS2, ↓setS3, ↓setS4, ↓setS5, ↓setS6, ↓conS0, ↓conS1, ↓conS2, ↓conS3, ↓conS4, ↓conS5, ↓conS6, ↓putS0, ↓putS1, ↓putS2, ↓putS3, ↓putS4, ↓putS5, ↓putS6]
    refine ite2 (fun _ => ?_) (fun _ => fin s _ _ _ hso dr3)
    refine ⟨a, _, rfl, by decide, by decide, d3.src, fun n4 W4 n41 n42 d4 => ?_⟩
    have dr4 := dr3.trans d4
    refine ⟨a, _, _, rfl, rfl, by simp, by simp, d4.src, fun t W5 ht d5 => ?_⟩
    have dr5 := dr4.trans d5
    obtain ⟨t, hto, rfl⟩ : ∃ u, okT u = true ∧ t = encT u := by
      simp only [List.mem_cons, List.not_mem_nil, or_false] at ht
      rcases ht with rfl | rfl | rfl
      · exact ⟨.due, rfl, rfl⟩
      · exact ⟨.flag, rfl, rfl⟩
      · exact ⟨.late n4, by simp only [okT, inR, Bool.and_eq_true, decide_eq_true_eq]; omega, rfl⟩
    have ed : (d : Int) - 1 = ((d - 1 : Nat) : Int) := by omega
    refine ⟨by omega, a, 2, by rw [ed], by decide, by decide, d5.src, fun b1 W6 b11 b12 d6 => ?_⟩
    have dr6 := dr5.trans d6
    refine ⟨by omega, a, 1, by rw [ed], by decide, by decide, d6.src, fun b2 W7 b21 b22 d7 => ?_⟩
    have dr7 := dr6.trans d7
    exact fin (.ite t b1 b2) _ _ _ (by obtain ⟨e, rfl⟩ : ∃ e, d = e + 1 := ⟨d - 1, by omega⟩
                                       exact okS_ite.mpr ⟨hto, b11, b21⟩) dr7
abbrev s__law_size : Stmt := topS 31
abbrev N__law_size : List Str := ["body", "many", "statement"]
theorem sc__law_size : FnScope N__law_size ["body"] (defScope s__law_size) := ⟨rfl, rfl, rfl, by decide +kernel, rfl, by decide +kernel, by decide +kernel⟩
theorem ok__law_size {d : Nat} {k : Nat}  (T : TopD K mg "_law_size" ["body"] s__law_size) (c__law_size : CallF P w K mg base "_law_size" 1 k (lowφ 1 φ__law_size d))  :
    CallF P w K mg base "_law_size" 1 (k + 1) (φ__law_size d) := by
  refine call_of (N := N__law_size) (k := k) T sc__law_size fun f cdv A outer s H E hr => ⟨_, (pmss_cons (pms_set (i := 1) (fun W t => ps_set (i := 1) sc__law_size.nd rfl (.inl rfl) (pm_int W t)))
      (pmss_cons (pms_for (passes_of rfl) rfl (pmi_seq (pm_var (pv 0))) (pmg_of (vs := [2]) (pg_name (i := 2) sc__law_size.nd rfl (.inl rfl)))
      (pmss_cons (pms_set (i := 1) (fun W t => ps_set (i := 1) sc__law_size.nd rfl (.inl rfl) ((pm_op od_add (pm_var (pv 1)) pm_int) W t)))
      (pmss_one (pms_if (pmt_cmp (od_eq (Room.hu64 hr)) (pm_ixK (Room.hu1 hr) (pk_var (pv 2)) pm_int (fun _ _ => rfl)) pm_str (nomark _)) (pmss_one (pms_set (i := 1) (fun W t => ps_set (i := 1) sc__law_size.nd rfl (.inl rfl) ((pm_op od_add (pm_op od_add (pm_var (pv 1)) (pm_callF c__law_size hr (by rfl) (pma_cons (pm_ixK (Room.hu1 hr) (pk_var (pv 2)) pm_int (fun _ _ => rfl)) pma_nil))) (pm_callF c__law_size hr (by rfl) (pma_cons (pm_ixK (Room.hu1 hr) (pk_var (pv 2)) pm_int (fun _ _ => rfl)) pma_nil))) W t)))) pmss_nil))))
      (pmss_one (pms_ret (pm_var (pv 1)))))), ?_⟩
  rintro ds Wo Q E' - ⟨b, rfl, hb, q⟩
  try simp only [↓pC, ↓pOp, ↓pUn, ↓pSl, ↓pPart, ↓pNil, ↓pCons, ↓pTup, ↓pLst, ↓pCallB, ↓pTest, ↓pNot, ↓pAnd, ↓pOr, ↓pAndV, ↓pOrV, ↓pNotV, ↓pIf, ↓pNext, ↓pSeq, ↓pBreak, ↓pCont, ↓pDrop, ↓pRet, ↓pRetN, ↓pIfS, ↓pgNil, ↓pgCons, ↓pgTup, ↓pAsg, ↓pRaise, ↓pCall, ↓pIter, ↓pFor, ↓pLc, ↓pYes, ↓pkOf, ↓pIxK, ↓pTabG, ↓pLenK, ↓pChain, ↓pStore, ↓pAppend, ↓pPop, ↓poLst, ↓poDct, ↓pNewW, ↓pRng1, ↓pRng2, ↓pTry, ↓pTryAs, ↓oEq, ↓oNe, ↓oLen, ↓oSum, ↓oAll, ↓oAny, ↓oIsi, start0, List.map_cons, List.map_nil, List.length_cons, List.length_nil, List.cons_append, List.nil_append, List.getElem?_cons_zero, List.getElem?_cons_succ, List.set_cons_zero, List.set_cons_succ, List.replicate, D.bl.injEq, D.int.injEq, D.str.injEq, D.tup.injEq, D.lst.injEq, exists_eq_left', exists_eq_left, Option.some.injEq, Bool.false_eq_true, if_true, if_false, true_and, and_true, false_and, and_false, isi_int, isi_bool, isi_str, isi_tuple, isi_list, isiT_int, isiT_bool, isiT_str, isiT_tuple, isiT_list, Bool.not_true, Bool.not_false, dat_non, dat_bl, dat_int, dat_str, dat_tup, dat_lst, isInt_non, isInt_bl, isInt_int, isInt_str, isInt_tup, isInt_lst, isBool_non, isBool_bl, isBool_int, isBool_str, isBool_tup, isBool_lst, isStr_non, isStr_bl, isStr_int, isStr_str, isStr_tup, isStr_lst, isTup_non, isTup_bl, isTup_int, isTup_str, isTup_tup, isTup_lst, isLst_non, isLst_bl, isLst_int, isLst_str, isLst_tup, isLst_lst, Nat.reduceAdd, Nat.zero_add, sz_0, sz_1, sz_2, sz_3, sz_4, sz_5, sz_6, sz_7, sz_8, sz_9, sz_10, sz_11, sz_12, List.any_cons, List.any_nil, eqD_tup, eqD_str, eqD_int, eqDs_cons, eqDs_nil, eqDs_cn, eqDs_nc, Bool.or_false, Bool.and_true, at0, at1, at2, at3, at4, good_int, good_bl, good_nil, good_nilL, good_non, eqDs_nil_r, eqDs_nil_l, List.isEmpty_nil, List.isEmpty_cons, Bool.and_false, Bool.or_true, Bool.false_or, Bool.true_or, Bool.false_and, Bool.true_and, encB, wipS_mk, List.foldr_cons, List.foldr_nil, con_updW, ↓ixC_ownD, ↓oIx_tup, ↓oIx_lst, ↓oIx_str, ↓lenC_ownL, ↓lenC_ownD, ↓setC_ownD, putC_adr, Own_lst_inj, Con_own_inj, updW_upd, Nat.reduceSub, Nat.sub_self, ↓itD_lst, ↓itD_tup, ↓oInt_i, ↓oCmp_i, ↓oAdd_i, ↓oAdd_s, ↓oAdd_t, ↓oAdd_l, ↓oNeg_i, ↓o1I_i, ↓o2I_i, ↓oSl_t, ↓oSl_l, ↓oList_t, ↓oList_l, ↓oTuple_t, ↓oTuple_l, ↓oIn_t, ↓oIn_l, ↓oIsN_n, ↓ixC_ownLi, ↓setC_ownLi, ixN20, ixN21, ex_int1, ex_int2, ↓pSet_eq, ↓ixK_tup, ↓ixK_lst, ↓ixK_str, ↓ixK_dct, ↓lenK_tup, ↓lenK_lst, ↓lenK_str, ↓pSetO_eq, ↓pPar_eq, ↓kPar_mk, ↓pVarV0, ↓pVarV1, ↓pVarV2, ↓pVarL0, ↓pVarL1, ↓pVarL2, ↓pVarD0, ↓pVarD1, ↓pVarD2, ↓pkVarV0, ↓pkVarV1, ↓pkVarV2, ↓pkVarO0, ↓pkVarO1, ↓pkVarO2, ↓kSetN0, ↓kSetN1, ↓kSetN2, ↓kSetO_N0, ↓kSetO_N1, ↓kSetO_N2, ↓pgNameN0, ↓pgNameN1, ↓pgNameN2, ↓ixS0, ↓ixS1, ↓ixS2, ↓lenS0, ↓lenS1, ↓lenS2, ↓setS0, ↓setS1, ↓setS2, ↓conS0, ↓conS1, ↓conS2, ↓putS0, ↓putS1, ↓putS2]
  rw [encSs_map]
  refine forW_list encS (fun r S => ∃ b0 s2, b = b0 ++ r ∧ (∀ x ∈ r, okS d x = true) ∧ S = ⟨[.val (.tup (encSs b)), .val (.int (listedB b0).length), s2], Wo⟩) ?_ ?_ b _ ⟨[], .emp, rfl, (okB_iff.mp hb).2, by rw [encSs_map]; rfl⟩
  · rintro S ⟨b0, s2, e, _, rfl⟩
    try simp only [↓pC, ↓pOp, ↓pUn, ↓pSl, ↓pPart, ↓pNil, ↓pCons, ↓pTup, ↓pLst, ↓pCallB, ↓pTest, ↓pNot, ↓pAnd, ↓pOr, ↓pAndV, ↓pOrV, ↓pNotV, ↓pIf, ↓pNext, ↓pSeq, ↓pBreak, ↓pCont, ↓pDrop, ↓pRet, ↓pRetN, ↓pIfS, ↓pgNil, ↓pgCons, ↓pgTup, ↓pAsg, ↓pRaise, ↓pCall, ↓pIter, ↓pFor, ↓pLc, ↓pYes, ↓pkOf, ↓pIxK, ↓pTabG, ↓pLenK, ↓pChain, ↓pStore, ↓pAppend, ↓pPop, ↓poLst, ↓poDct, ↓pNewW, ↓pRng1, ↓pRng2, ↓pTry, ↓pTryAs, ↓oEq, ↓oNe, ↓oLen, ↓oSum, ↓oAll, ↓oAny, ↓oIsi, start0, List.map_cons, List.map_nil, List.length_cons, List.length_nil, List.cons_append, List.nil_append, List.getElem?_cons_zero, List.getElem?_cons_succ, List.set_cons_zero, List.set_cons_succ, List.replicate, D.bl.injEq, D.int.injEq, D.str.injEq, D.tup.injEq, D.lst.injEq, exists_eq_left', exists_eq_left, Option.some.injEq, Bool.false_eq_true, if_true, if_false, true_and, and_true, false_and, and_false, isi_int, isi_bool, isi_str, isi_tuple, isi_list, isiT_int, isiT_bool, isiT_str, isiT_tuple, isiT_list, Bool.not_true, Bool.not_false, dat_non, dat_bl, dat_int, dat_str, dat_tup, dat_lst, isInt_non, isInt_bl, isInt_int, isInt_str, isInt_tup, isInt_lst, isBool_non, isBool_bl, isBool_int, isBool_str, isBool_tup, isBool_lst, isStr_non, isStr_bl, isStr_int, isStr_str, isStr_tup, isStr_lst, isTup_non, isTup_bl, isTup_int, isTup_str, isTup_tup, isTup_lst, isLst_non, isLst_bl, isLst_int, isLst_str, isLst_tup, isLst_lst, Nat.reduceAdd, Nat.zero_add, sz_0, sz_1, sz_2, sz_3, sz_4, sz_5, sz_6, sz_7, sz_8, sz_9, sz_10, sz_11, sz_12, List.any_cons, List.any_nil, eqD_tup, eqD_str, eqD_int, eqDs_cons, eqDs_nil, eqDs_cn, eqDs_nc, Bool.or_false, Bool.and_true, at0, at1, at2, at3, at4, good_int, good_bl, good_nil, good_nilL, good_non, eqDs_nil_r, eqDs_nil_l, List.isEmpty_nil, List.isEmpty_cons, Bool.and_false, Bool.or_true, Bool.false_or, Bool.true_or, Bool.false_and, Bool.true_and, encB, wipS_mk, List.foldr_cons, List.foldr_nil, con_updW, ↓ixC_ownD, ↓oIx_tup, ↓oIx_lst, ↓oIx_str, ↓lenC_ownL, ↓lenC_ownD, ↓setC_ownD, putC_adr, Own_lst_inj, Con_own_inj, updW_upd, Nat.reduceSub, Nat.sub_self, ↓itD_lst, ↓itD_tup, ↓oInt_i, ↓oCmp_i, ↓oAdd_i, ↓oAdd_s, ↓oAdd_t, ↓oAdd_l, ↓oNeg_i, ↓o1I_i, ↓o2I_i, ↓oSl_t, ↓oSl_l, ↓oList_t, ↓oList_l, ↓oTuple_t, ↓oTuple_l, ↓oIn_t, ↓oIn_l, ↓oIsN_n, ↓ixC_ownLi, ↓setC_ownLi, ixN20, ixN21, ex_int1, ex_int2, ↓pSet_eq, ↓ixK_tup, ↓ixK_lst, ↓ixK_str, ↓ixK_dct, ↓lenK_tup, ↓lenK_lst, ↓lenK_str, ↓pSetO_eq, ↓pPar_eq, ↓kPar_mk, ↓pVarV0, ↓pVarV1, ↓pVarV2, ↓pVarL0, ↓pVarL1, ↓pVarL2, ↓pVarD0, ↓pVarD1, ↓pVarD2, ↓pkVarV0, ↓pkVarV1, ↓pkVarV2, ↓pkVarO0, ↓pkVarO1, ↓pkVarO2, ↓kSetN0, ↓kSetN1, ↓kSetN2, ↓kSetO_N0, ↓kSetO_N1, ↓kSetO_N2, ↓pgNameN0, ↓pgNameN1, ↓pgNameN2, ↓ixS0, ↓ixS1, ↓ixS2, ↓lenS0, ↓lenS1, ↓lenS2, ↓setS0, ↓setS1, ↓setS2, ↓conS0, ↓conS1, ↓conS2, ↓putS0, ↓putS1, ↓putS2]
    rw [List.append_nil] at e
    exact e ▸ q
  · rintro s r S K' ⟨b0, s2, e, ho, rfl⟩ hK
    have hs := ho s (List.mem_cons_self ..)
    have done : ∀ i : Int, i = (listedB b0).length + (listedS s).length → K' ⟨[.val (.tup (encSs b)), .val (.int i), .val (encS s)], Wo⟩ := fun i hi => hK _ ⟨b0 ++ [s], .val (encS s), by rw [e]; simp, fun x hx => ho x (List.mem_cons_of_mem _ hx), by
      have e1 : listedB (b0 ++ [s]) = listedB b0 ++ listedS s := by rw [listedB_append, listedB, listedB, List.append_nil]
      subst hi; rw [e1, List.length_append, Int.natCast_add]⟩
    try simp only [↓pC, ↓pOp, ↓pUn, ↓pSl, ↓pPart, ↓pNil, ↓pCons, ↓pTup, ↓pLst, ↓pCallB, ↓pTest, ↓pNot, ↓pAnd, ↓pOr, ↓pAndV, ↓pOrV, ↓pNotV, ↓pIf, ↓pNext, ↓pSeq, ↓pBreak, ↓pCont, ↓pDrop, ↓pRet, ↓pRetN, ↓pIfS, ↓pgNil, ↓pgCons, ↓pgTup, ↓pAsg, ↓pRaise, ↓pCall, ↓pIter, ↓pFor, ↓pLc, ↓pYes, ↓pkOf, ↓pIxK, ↓pTabG, ↓pLenK, ↓pChain, ↓pStore, ↓pAppend, ↓pPop, ↓poLst, ↓poDct, ↓pNewW, ↓pRng1, ↓pRng2, ↓pTry, ↓pTryAs, ↓oEq, ↓oNe, ↓oLen, ↓oSum, ↓oAll, ↓oAny, ↓oIsi, start0, List.map_cons, List.map_nil, List.length_cons, List.length_nil, List.cons_append, List.nil_append, List.getElem?_cons_zero, List.getElem?_cons_succ, List.set_cons_zero, List.set_cons_succ, List.replicate, D.bl.injEq, D.int.injEq, D.str.injEq, D.tup.injEq, D.lst.injEq, exists_eq_left', exists_eq_left, Option.some.injEq, Bool.false_eq_true, if_true, if_false, true_and, and_true, false_and, and_false, isi_int, isi_bool, isi_str, isi_tuple, isi_list, isiT_int, isiT_bool, isiT_str, isiT_tuple, isiT_list, Bool.not_true, Bool.not_false, dat_non, dat_bl, dat_int, dat_str, dat_tup, dat_lst, isInt_non, isInt_bl, isInt_int, isInt_str, isInt_tup, isInt_lst, isBool_non, isBool_bl, isBool_int, isBool_str, isBool_tup, isBool_lst, isStr_non, isStr_bl, isStr_int, isStr_str, isStr_tup, isStr_lst, isTup_non, isTup_bl, isTup_int, isTup_str, isTup_tup, isTup_lst, isLst_non, isLst_bl, isLst_int, isLst_str, isLst_tup, isLst_lst, Nat.reduceAdd, Nat.zero_add, sz_0, sz_1, sz_2, sz_3, sz_4, sz_5, sz_6, sz_7, sz_8, sz_9, sz_10, sz_11, sz_12, List.any_cons, List.any_nil, eqD_tup, eqD_str, eqD_int, eqDs_cons, eqDs_nil, eqDs_cn, eqDs_nc, Bool.or_false, Bool.and_true, at0, at1, at2, at3, at4, good_int, good_bl, good_nil, good_nilL, good_non, eqDs_nil_r, eqDs_nil_l, List.isEmpty_nil, List.isEmpty_cons, Bool.and_false, Bool.or_true, Bool.false_or, Bool.true_or, Bool.false_and, Bool.true_and, encB, wipS_mk, List.foldr_cons, List.foldr_nil, con_updW, ↓ixC_ownD, ↓oIx_tup, ↓oIx_lst, ↓oIx_str, ↓lenC_ownL, ↓lenC_ownD, ↓setC_ownD, putC_adr, Own_lst_inj, Con_own_inj, updW_upd, Nat.reduceSub, Nat.sub_self, ↓itD_lst, ↓itD_tup, ↓oInt_i, ↓oCmp_i, ↓oAdd_i, ↓oAdd_s, ↓oAdd_t, ↓oAdd_l, ↓oNeg_i, ↓o1I_i, ↓o2I_i, ↓oSl_t, ↓oSl_l, ↓oList_t, ↓oList_l, ↓oTuple_t, ↓oTuple_l, ↓oIn_t, ↓oIn_l, ↓oIsN_n, ↓ixC_ownLi, ↓setC_ownLi, ixN20, ixN21, ex_int1, ex_int2, ↓pSet_eq, ↓ixK_tup, ↓ixK_lst, ↓ixK_str, ↓ixK_dct, ↓lenK_tup, ↓lenK_lst, ↓lenK_str, ↓pSetO_eq, ↓pPar_eq, ↓kPar_mk, ↓pVarV0, ↓pVarV1, ↓pVarV2, ↓pVarL0, ↓pVarL1, ↓pVarL2, ↓pVarD0, ↓pVarD1, ↓pVarD2, ↓pkVarV0, ↓pkVarV1, ↓pkVarV2, ↓pkVarO0, ↓pkVarO1, ↓pkVarO2, ↓kSetN0, ↓kSetN1, ↓kSetN2, ↓kSetO_N0, ↓kSetO_N1, ↓kSetO_N2, ↓pgNameN0, ↓pgNameN1, ↓pgNameN2, ↓ixS0, ↓ixS1, ↓ixS2, ↓lenS0, ↓lenS1, ↓lenS2, ↓setS0, ↓setS1, ↓setS2, ↓conS0, ↓conS1, ↓conS2, ↓putS0, ↓putS1, ↓putS2]
    have g1 : D.good (.str "if") = true := by decide +kernel
    cases s with
    | ite t x y =>
      cases d with
      | zero => simp [okS] at hs
      | succ d =>
        obtain ⟨_, hx, hy⟩ := okS_ite.mp hs
        try simp only [encS, g1, Nat.add_sub_cancel, ↓pC, ↓pOp, ↓pUn, ↓pSl, ↓pPart, ↓pNil, ↓pCons, ↓pTup, ↓pLst, ↓pCallB, ↓pTest, ↓pNot, ↓pAnd, ↓pOr, ↓pAndV, ↓pOrV, ↓pNotV, ↓pIf, ↓pNext, ↓pSeq, ↓pBreak, ↓pCont, ↓pDrop, ↓pRet, ↓pRetN, ↓pIfS, ↓pgNil, ↓pgCons, ↓pgTup, ↓pAsg, ↓pRaise, ↓pCall, ↓pIter, ↓pFor, ↓pLc, ↓pYes, ↓pkOf, ↓pIxK, ↓pTabG, ↓pLenK, ↓pChain, ↓pStore, ↓pAppend, ↓pPop, ↓poLst, ↓poDct, ↓pNewW, ↓pRng1, ↓pRng2, ↓pTry, ↓pTryAs, ↓oEq, ↓oNe, ↓oLen, ↓oSum, ↓oAll, ↓oAny, ↓oIsi, start0, List.map_cons, List.map_nil, List.length_cons, List.length_nil, List.cons_append, List.nil_append, List.getElem?_cons_zero, List.getElem?_cons_succ, List.set_cons_zero, List.set_cons_succ, List.replicate, D.bl.injEq, D.int.injEq, D.str.injEq, D.tup.injEq, D.lst.injEq, exists_eq_left', exists_eq_left, Option.some.injEq, Bool.false_eq_true, if_true, if_false, true_and, and_true, false_and, and_false, isi_int, isi_bool, isi_str, isi_tuple, isi_list, isiT_int, isiT_bool, isiT_str, isiT_tuple, isiT_list, Bool.not_true, Bool.not_false, dat_non, dat_bl, dat_int, dat_str, dat_tup, dat_lst, isInt_non, isInt_bl, isInt_int, isInt_str, isInt_tup, isInt_lst, isBool_non, isBool_bl, isBool_int, isBool_str, isBool_tup, isBool_lst, isStr_non, isStr_bl, isStr_int, isStr_str, isStr_tup, isStr_lst, isTup_non, isTup_bl, isTup_int, isTup_str, isTup_tup, isTup_lst, isLst_non, isLst_bl, isLst_int, isLst_str, isLst_tup, isLst_lst, Nat.reduceAdd, Nat.zero_add, sz_0, sz_1, sz_2, sz_3, sz_4, sz_5, sz_6, sz_7, sz_8, sz_9, sz_10, sz_11, sz_12, List.any_cons, List.any_nil, eqD_tup, eqD_str, eqD_int, eqDs_cons, eqDs_nil, eqDs_cn, eqDs_nc, Bool.or_false, Bool.and_true, at0, at1, at2, at3, at4, good_int, good_bl, good_nil, good_nilL, good_non, eqDs_nil_r, eqDs_nil_l, List.isEmpty_nil, List.isEmpty_cons, Bool.and_false, Bool.or_true, Bool.false_or, Bool.true_or, Bool.false_and, Bool.true_and, encB, wipS_mk, List.foldr_cons, List.foldr_nil, con_updW, ↓ixC_ownD, ↓oIx_tup, ↓oIx_lst, ↓oIx_str, ↓lenC_ownL, ↓lenC_ownD, ↓setC_ownD, putC_adr, Own_lst_inj, Con_own_inj, updW_upd, Nat.reduceSub, Nat.sub_self, ↓itD_lst, ↓itD_tup, ↓oInt_i, ↓oCmp_i, ↓oAdd_i, ↓oAdd_s, ↓oAdd_t, ↓oAdd_l, ↓oNeg_i, ↓o1I_i, ↓o2I_i, ↓oSl_t, ↓oSl_l, ↓oList_t, ↓oList_l, ↓oTuple_t, ↓oTuple_l, ↓oIn_t, ↓oIn_l, ↓oIsN_n, ↓ixC_ownLi, ↓setC_ownLi, ixN20, ixN21, ex_int1, ex_int2, ↓pSet_eq, ↓ixK_tup, ↓ixK_lst, ↓ixK_str, ↓ixK_dct, ↓lenK_tup, ↓lenK_lst, ↓lenK_str, ↓pSetO_eq, ↓pPar_eq, ↓kPar_mk, ↓pVarV0, ↓pVarV1, ↓pVarV2, ↓pVarL0, ↓pVarL1, ↓pVarL2, ↓pVarD0, ↓pVarD1, ↓pVarD2, ↓pkVarV0, ↓pkVarV1, ↓pkVarV2, ↓pkVarO0, ↓pkVarO1, ↓pkVarO2, ↓kSetN0, ↓kSetN1, ↓kSetN2, ↓kSetO_N0, ↓kSetO_N1, ↓kSetO_N2, ↓pgNameN0, ↓pgNameN1, ↓pgNameN2, ↓ixS0, ↓ixS1, ↓ixS2, ↓lenS0, ↓lenS1, ↓lenS2, ↓setS0, ↓setS1, ↓setS2, ↓conS0, ↓conS1, ↓conS2, ↓putS0, ↓putS1, ↓putS2]
        refine ite2 (fun _ => ?_) (fun c => absurd rfl c)
        refine ⟨by omega, x, rfl, hx, ?_⟩
        try simp only [↓pC, ↓pOp, ↓pUn, ↓pSl, ↓pPart, ↓pNil, ↓pCons, ↓pTup, ↓pLst, ↓pCallB, ↓pTest, ↓pNot, ↓pAnd, ↓pOr, ↓pAndV, ↓pOrV, ↓pNotV, ↓pIf, ↓pNext, ↓pSeq, ↓pBreak, ↓pCont, ↓pDrop, ↓pRet, ↓pRetN, ↓pIfS, ↓pgNil, ↓pgCons, ↓pgTup, ↓pAsg, ↓pRaise, ↓pCall, ↓pIter, ↓pFor, ↓pLc, ↓pYes, ↓pkOf, ↓pIxK, ↓pTabG, ↓pLenK, ↓pChain, ↓pStore, ↓pAppend, ↓pPop, ↓poLst, ↓poDct, ↓pNewW, ↓pRng1, ↓pRng2, ↓pTry, ↓pTryAs, ↓oEq, ↓oNe, ↓oLen, ↓oSum, ↓oAll, ↓oAny, ↓oIsi, start0, List.map_cons, List.map_nil, List.length_cons, List.length_nil, List.cons_append, List.nil_append, List.getElem?_cons_zero, List.getElem?_cons_succ, List.set_cons_zero, List.set_cons_succ, List.replicate, D.bl.injEq, D.int.injEq, D.str.injEq, D.tup.injEq, D.lst.injEq, exists_eq_left', exists_eq_left, Option.some.injEq, Bool.false_eq_true, if_true, if_false, true_and, and_true, false_and, and_false, isi_int, isi_bool, isi_str, isi_tuple, isi_list, isiT_int, isiT_bool, isiT_str, isiT_tuple, isiT_list, Bool.not_true, Bool.not_false, dat_non, dat_bl, dat_int, dat_str, dat_tup, dat_lst, isInt_non, isInt_bl, isInt_int, isInt_str, isInt_tup, isInt_lst, isBool_non, isBool_bl, isBool_int, isBool_str, isBool_tup, isBool_lst, isStr_non, isStr_bl, isStr_int, isStr_str, isStr_tup, isStr_lst, isTup_non, isTup_bl, isTup_int, isTup_str, isTup_tup, isTup_lst, isLst_non, isLst_bl, isLst_int, isLst_str, isLst_tup, isLst_lst, Nat.reduceAdd, Nat.zero_add, sz_0, sz_1, sz_2, sz_3, sz_4, sz_5, sz_6, sz_7, sz_8, sz_9, sz_10, sz_11, sz_12, List.any_cons, List.any_nil, eqD_tup, eqD_str, eqD_int, eqDs_cons, eqDs_nil, eqDs_cn, eqDs_nc, Bool.or_false, Bool.and_true, at0, at1, at2, at3, at4, good_int, good_bl, good_nil, good_nilL, good_non, eqDs_nil_r, eqDs_nil_l, List.isEmpty_nil, List.isEmpty_cons, Bool.and_false, Bool.or_true, Bool.false_or, Bool.true_or, Bool.false_and, Bool.true_and, encB, wipS_mk, List.foldr_cons, List.foldr_nil, con_updW, ↓ixC_ownD, ↓oIx_tup, ↓oIx_lst, ↓oIx_str, ↓lenC_ownL, ↓lenC_ownD, ↓setC_ownD, putC_adr, Own_lst_inj, Con_own_inj, updW_upd, Nat.reduceSub, Nat.sub_self, ↓itD_lst, ↓itD_tup, ↓oInt_i, ↓oCmp_i, ↓oAdd_i, ↓oAdd_s, ↓oAdd_t, ↓oAdd_l, ↓oNeg_i, ↓o1I_i, ↓o2I_i, ↓oSl_t, ↓oSl_l, ↓oList_t, ↓oList_l, ↓oTuple_t, ↓oTuple_l, ↓oIn_t, ↓oIn_l, ↓oIsN_n, ↓ixC_ownLi, ↓setC_ownLi, ixN20, ixN21, ex_int1, ex_int2, ↓pSet_eq, ↓ixK_tup, ↓ixK_lst, ↓ixK_str, ↓ixK_dct, ↓lenK_tup, ↓lenK_lst, ↓lenK_str, ↓pSetO_eq, ↓pPar_eq, ↓kPar_mk, ↓pVarV0, ↓pVarV1, ↓pVarV2, ↓pVarL0, ↓pVarL1, ↓pVarL2, ↓pVarD0, ↓pVarD1, ↓pVarD2, ↓pkVarV0, ↓pkVarV1, ↓pkVarV2, ↓pkVarO0, ↓pkVarO1, ↓pkVarO2, ↓kSetN0, ↓kSetN1, ↓kSetN2, ↓kSetO_N0, ↓kSetO_N1, ↓kSetO_N2, ↓pgNameN0, ↓pgNameN1, ↓pgNameN2, ↓ixS0, ↓ixS1, ↓ixS2, ↓lenS0, ↓lenS1, ↓lenS2, ↓setS0, ↓setS1, ↓setS2, ↓conS0, ↓conS1, ↓conS2, ↓putS0, ↓putS1, ↓putS2]
        refine ⟨by omega, y, rfl, hy, ?_⟩
        try simp only [↓pC, ↓pOp, ↓pUn, ↓pSl, ↓pPart, ↓pNil, ↓pCons, ↓pTup, ↓pLst, ↓pCallB, ↓pTest, ↓pNot, ↓pAnd, ↓pOr, ↓pAndV, ↓pOrV, ↓pNotV, ↓pIf, ↓pNext, ↓pSeq, ↓pBreak, ↓pCont, ↓pDrop, ↓pRet, ↓pRetN, ↓pIfS, ↓pgNil, ↓pgCons, ↓pgTup, ↓pAsg, ↓pRaise, ↓pCall, ↓pIter, ↓pFor, ↓pLc, ↓pYes, ↓pkOf, ↓pIxK, ↓pTabG, ↓pLenK, ↓pChain, ↓pStore, ↓pAppend, ↓pPop, ↓poLst, ↓poDct, ↓pNewW, ↓pRng1, ↓pRng2, ↓pTry, ↓pTryAs, ↓oEq, ↓oNe, ↓oLen, ↓oSum, ↓oAll, ↓oAny, ↓oIsi, start0, List.map_cons, List.map_nil, List.length_cons, List.length_nil, List.cons_append, List.nil_append, List.getElem?_cons_zero, List.getElem?_cons_succ, List.set_cons_zero, List.set_cons_succ, List.replicate, D.bl.injEq, D.int.injEq, D.str.injEq, D.tup.injEq, D.lst.injEq, exists_eq_left', exists_eq_left, Option.some.injEq, Bool.false_eq_true, if_true, if_false, true_and, and_true, false_and, and_false, isi_int, isi_bool, isi_str, isi_tuple, isi_list, isiT_int, isiT_bool, isiT_str, isiT_tuple, isiT_list, Bool.not_true, Bool.not_false, dat_non, dat_bl, dat_int, dat_str, dat_tup, dat_lst, isInt_non, isInt_bl, isInt_int, isInt_str, isInt_tup, isInt_lst, isBool_non, isBool_bl, isBool_int, isBool_str, isBool_tup, isBool_lst, isStr_non, isStr_bl, isStr_int, isStr_str, isStr_tup, isStr_lst, isTup_non, isTup_bl, isTup_int, isTup_str, isTup_tup, isTup_lst, isLst_non, isLst_bl, isLst_int, isLst_str, isLst_tup, isLst_lst, Nat.reduceAdd, Nat.zero_add, sz_0, sz_1, sz_2, sz_3, sz_4, sz_5, sz_6, sz_7, sz_8, sz_9, sz_10, sz_11, sz_12, List.any_cons, List.any_nil, eqD_tup, eqD_str, eqD_int, eqDs_cons, eqDs_nil, eqDs_cn, eqDs_nc, Bool.or_false, Bool.and_true, at0, at1, at2, at3, at4, good_int, good_bl, good_nil, good_nilL, good_non, eqDs_nil_r, eqDs_nil_l, List.isEmpty_nil, List.isEmpty_cons, Bool.and_false, Bool.or_true, Bool.false_or, Bool.true_or, Bool.false_and, Bool.true_and, encB, wipS_mk, List.foldr_cons, List.foldr_nil, con_updW, ↓ixC_ownD, ↓oIx_tup, ↓oIx_lst, ↓oIx_str, ↓lenC_ownL, ↓lenC_ownD, ↓setC_ownD, putC_adr, Own_lst_inj, Con_own_inj, updW_upd, Nat.reduceSub, Nat.sub_self, ↓itD_lst, ↓itD_tup, ↓oInt_i, ↓oCmp_i, ↓oAdd_i, ↓oAdd_s, ↓oAdd_t, ↓oAdd_l, ↓oNeg_i, ↓o1I_i, ↓o2I_i, ↓oSl_t, ↓oSl_l, ↓oList_t, ↓oList_l, ↓oTuple_t, ↓oTuple_l, ↓oIn_t, ↓oIn_l, ↓oIsN_n, ↓ixC_ownLi, ↓setC_ownLi, ixN20, ixN21, ex_int1, ex_int2, ↓pSet_eq, ↓ixK_tup, ↓ixK_lst, ↓ixK_str, ↓ixK_dct, ↓lenK_tup, ↓lenK_lst, ↓lenK_str, ↓pSetO_eq, ↓pPar_eq, ↓kPar_mk, ↓pVarV0, ↓pVarV1, ↓pVarV2, ↓pVarL0, ↓pVarL1, ↓pVarL2, ↓pVarD0, ↓pVarD1, ↓pVarD2, ↓pkVarV0, ↓pkVarV1, ↓pkVarV2, ↓pkVarO0, ↓pkVarO1, ↓pkVarO2, ↓kSetN0, ↓kSetN1, ↓kSetN2, ↓kSetO_N0, ↓kSetO_N1, ↓kSetO_N2, ↓pgNameN0, ↓pgNameN1, ↓pgNameN2, ↓ixS0, ↓ixS1, ↓ixS2, ↓lenS0, ↓lenS1, ↓lenS2, ↓setS0, ↓setS1, ↓setS2, ↓conS0, ↓conS1, ↓conS2, ↓putS0, ↓putS1, ↓putS2]
        exact done _ (by simp only [listedS, List.length_cons, List.length_append]; omega)
    | _ =>
      try simp only [encS, g1, ↓pC, ↓pOp, ↓pUn, ↓pSl, ↓pPart, ↓pNil, ↓pCons, ↓pTup, ↓pLst, ↓pCallB, ↓pTest, ↓pNot, ↓pAnd, ↓pOr, ↓pAndV, ↓pOrV, ↓pNotV, ↓pIf, ↓pNext, ↓pSeq, ↓pBreak, ↓pCont, ↓pDrop, ↓pRet, ↓pRetN, ↓pIfS, ↓pgNil, ↓pgCons, ↓pgTup, ↓pAsg, ↓pRaise, ↓pCall, ↓pIter, ↓pFor, ↓pLc, ↓pYes, ↓pkOf, ↓pIxK, ↓pTabG, ↓pLenK, ↓pChain, ↓pStore, ↓pAppend, ↓pPop, ↓poLst, ↓poDct, ↓pNewW, ↓pRng1, ↓pRng2, ↓pTry, ↓pTryAs, ↓oEq, ↓oNe, ↓oLen, ↓oSum, ↓oAll, ↓oAny, ↓oIsi, start0, List.map_cons, List.map_nil, List.length_cons, List.length_nil, List.cons_append, List.nil_append, List.getElem?_cons_zero, List.getElem?_cons_succ, List.set_cons_zero, List.set_cons_succ, List.replicate, D.bl.injEq, D.int.injEq, D.str.injEq, D.tup.injEq, D.lst.injEq, exists_eq_left', exists_eq_left, Option.some.injEq, Bool.false_eq_true, if_true, if_false, true_and, and_true, false_and, and_false, isi_int, isi_bool, isi_str, isi_tuple, isi_list, isiT_int, isiT_bool, isiT_str, isiT_tuple, isiT_list, Bool.not_true, Bool.not_false, dat_non, dat_bl, dat_int, dat_str, dat_tup, dat_lst, isInt_non, isInt_bl, isInt_int, isInt_str, isInt_tup, isInt_lst, isBool_non, isBool_bl, isBool_int, isBool_str, isBool_tup, isBool_lst, isStr_non, isStr_bl, isStr_int, isStr_str, isStr_tup, isStr_lst, isTup_non, isTup_bl, isTup_int, isTup_str, isTup_tup, isTup_lst, isLst_non, isLst_bl, isLst_int, isLst_str, isLst_tup, isLst_lst, Nat.reduceAdd, Nat.zero_add, sz_0, sz_1, sz_2, sz_3, sz_4, sz_5, sz_6, sz_7, sz_8, sz_9, sz_10, sz_11, sz_12, List.any_cons, List.any_nil, eqD_tup, eqD_str, eqD_int, eqDs_cons, eqDs_nil, eqDs_cn, eqDs_nc, Bool.or_false, Bool.and_true, at0, at1, at2, at3, at4, good_int, good_bl, good_nil, good_nilL, good_non, eqDs_nil_r, eqDs_nil_l, List.isEmpty_nil, List.isEmpty_cons, Bool.and_false, Bool.or_true, Bool.false_or, Bool.true_or, Bool.false_and, Bool.true_and, encB, wipS_mk, List.foldr_cons, List.foldr_nil, con_updW, ↓ixC_ownD, ↓oIx_tup, ↓oIx_lst, ↓oIx_str, ↓lenC_ownL, ↓lenC_ownD, ↓setC_ownD, putC_adr, Own_lst_inj, Con_own_inj, updW_upd, Nat.reduceSub, Nat.sub_self, ↓itD_lst, ↓itD_tup, ↓oInt_i, ↓oCmp_i, ↓oAdd_i, ↓oAdd_s, ↓oAdd_t, ↓oAdd_l, ↓oNeg_i, ↓o1I_i, ↓o2I_i, ↓oSl_t, ↓oSl_l, ↓oList_t, ↓oList_l, ↓oTuple_t, ↓oTuple_l, ↓oIn_t, ↓oIn_l, ↓oIsN_n, ↓ixC_ownLi, ↓setC_ownLi, ixN20, ixN21, ex_int1, ex_int2, ↓pSet_eq, ↓ixK_tup, ↓ixK_lst, ↓ixK_str, ↓ixK_dct, ↓lenK_tup, ↓lenK_lst, ↓lenK_str, ↓pSetO_eq, ↓pPar_eq, ↓kPar_mk, ↓pVarV0, ↓pVarV1, ↓pVarV2, ↓pVarL0, ↓pVarL1, ↓pVarL2, ↓pVarD0, ↓pVarD1, ↓pVarD2, ↓pkVarV0, ↓pkVarV1, ↓pkVarV2, ↓pkVarO0, ↓pkVarO1, ↓pkVarO2, ↓kSetN0, ↓kSetN1, ↓kSetN2, ↓kSetO_N0, ↓kSetO_N1, ↓kSetO_N2, ↓pgNameN0, ↓pgNameN1, ↓pgNameN2, ↓ixS0, ↓ixS1, ↓ixS2, ↓lenS0, ↓lenS1, ↓lenS2, ↓setS0, ↓setS1, ↓setS2, ↓conS0, ↓conS1, ↓conS2, ↓putS0, ↓putS1, ↓putS2]
      refine ⟨by decide +kernel, ite2 (fun c => absurd c (by decide +kernel)) (fun _ => done _ rfl)⟩
abbrev s__law_known : Stmt := topS 32
abbrev N__law_known : List Str := ["source", "n", "m", "some"]
theorem sc__law_known : FnScope N__law_known ["source"] (defScope s__law_known) := ⟨rfl, rfl, rfl, by decide +kernel, rfl, by decide +kernel, by decide +kernel⟩
theorem ok__law_known  {k : Nat}  (T : TopD K mg "_law_known" ["source"] s__law_known) (c__law_of : CallF P w K mg base "_law_of" 2 k (φ__law_of)) (c__law_draw : CallF P w K mg base "_law_draw" 2 k (φ__law_draw))  :
    CallF P w K mg base "_law_known" 1 (k + 1) (φ__law_known) := by
  refine call_of (N := N__law_known) (k := k) T sc__law_known fun f cdv A outer s H E hr => ⟨_, (pmss_cons (pms_par (i := 1) (j := 2) (fun W t => ps_par (i := 1) (j := 2) rfl sc__law_known.nd rfl rfl (by decide) rfl rfl ((pma_cons (pm_op od_add pm_int (pm_callF c__law_draw hr (by rfl) (pma_cons (pm_var (pv 0)) (pma_cons pm_int pma_nil)))) (pma_cons (pm_op od_add pm_int (pm_callF c__law_draw hr (by rfl) (pma_cons (pm_var (pv 0)) (pma_cons pm_int pma_nil)))) pma_nil)) W t) (by rfl)))
      (pmss_cons (pms_set (i := 3) (fun W t => ps_set (i := 3) sc__law_known.nd rfl (.inl rfl) ((pm_lst (pma_cons (pm_tup (pma_cons (pm_tup (pma_cons pm_str pma_nil)) (pma_cons (pm_tup (pma_cons pm_str (pma_cons (pm_var (pv 1)) pma_nil))) pma_nil))) (pma_cons (pm_tup (pma_cons (pm_tup (pma_cons pm_str pma_nil)) (pma_cons (pm_tup (pma_cons pm_str (pma_cons (pm_var (pv 1)) pma_nil))) pma_nil))) (pma_cons (pm_tup (pma_cons (pm_tup (pma_cons pm_str (pma_cons (pm_var (pv 1)) pma_nil))) pma_nil)) (pma_cons (pm_tup (pma_cons (pm_tup (pma_cons pm_str (pma_cons (pm_var (pv 2)) pma_nil))) pma_nil)) pma_nil))))) W t)))
      (pmss_cons (pms_set (i := 3) (fun W t => ps_set (i := 3) sc__law_known.nd rfl (.inl rfl) ((pm_op od_add (pm_var (pv 3)) (pm_lst (pma_cons (pm_tup (pma_cons (pm_tup (pma_cons pm_str pma_nil)) (pma_cons (pm_tup (pma_cons pm_str (pma_cons (pm_var (pv 1)) pma_nil))) pma_nil))) (pma_cons (pm_tup (pma_cons (pm_tup (pma_cons pm_str (pma_cons (pm_var (pv 1)) pma_nil))) (pma_cons (pm_tup (pma_cons pm_str pma_nil)) (pma_cons (pm_tup (pma_cons pm_str (pma_cons (pm_tup (pma_cons pm_str pma_nil)) (pma_cons (pm_tup (pma_cons (pm_tup (pma_cons pm_str (pma_cons (pm_var (pv 2)) pma_nil))) pma_nil)) (pma_cons (pm_tup pma_nil) pma_nil))))) pma_nil)))) pma_nil)))) W t)))
      (pmss_cons (pms_set (i := 3) (fun W t => ps_set (i := 3) sc__law_known.nd rfl (.inl rfl) ((pm_op od_add (pm_var (pv 3)) (pm_lst (pma_cons (pm_tup (pma_cons (pm_tup (pma_cons pm_str pma_nil)) (pma_cons (pm_tup (pma_cons pm_str (pma_cons (pm_var (pv 1)) pma_nil))) (pma_cons (pm_tup (pma_cons pm_str (pma_cons (pm_tup (pma_cons pm_str (pma_cons (pm_var (pv 2)) pma_nil))) (pma_cons (pm_tup (pma_cons (pm_tup (pma_cons pm_str (pma_cons pm_int pma_nil))) pma_nil)) (pma_cons (pm_tup pma_nil) pma_nil))))) pma_nil)))) pma_nil))) W t)))
      (pmss_cons (pms_set (i := 3) (fun W t => ps_set (i := 3) sc__law_known.nd rfl (.inl rfl) ((pm_op od_add (pm_var (pv 3)) (pm_lst (pma_cons (pm_tup (pma_cons (pm_tup (pma_cons pm_str (pma_cons (pm_tup (pma_cons pm_str pma_nil)) (pma_cons (pm_tup (pma_cons (pm_tup (pma_cons pm_str (pma_cons (pm_var (pv 1)) pma_nil))) (pma_cons (pm_tup (pma_cons pm_str (pma_cons (pm_var (pv 2)) pma_nil))) pma_nil))) (pma_cons (pm_tup (pma_cons (pm_tup (pma_cons pm_str pma_nil)) (pma_cons (pm_tup (pma_cons pm_str (pma_cons (pm_var (pv 1)) pma_nil))) pma_nil))) pma_nil))))) pma_nil)) pma_nil))) W t)))
      (pmss_cons (pms_set (i := 3) (fun W t => ps_set (i := 3) sc__law_known.nd rfl (.inl rfl) ((pm_op od_add (pm_var (pv 3)) (pm_lst (pma_cons (pm_tup (pma_cons (pm_tup (pma_cons pm_str (pma_cons (pm_var (pv 2)) pma_nil))) (pma_cons (pm_tup (pma_cons pm_str pma_nil)) (pma_cons (pm_tup (pma_cons pm_str (pma_cons (pm_var (pv 1)) pma_nil))) pma_nil)))) pma_nil))) W t)))
      (pmss_cons (pms_set (i := 3) (fun W t => ps_set (i := 3) sc__law_known.nd rfl (.inl rfl) ((pm_op od_add (pm_var (pv 3)) (pm_lst (pma_cons (pm_tup (pma_cons (pm_tup (pma_cons pm_str (pma_cons (pm_tup (pma_cons pm_str pma_nil)) (pma_cons (pm_tup (pma_cons (pm_tup (pma_cons pm_str pma_nil)) (pma_cons (pm_tup (pma_cons pm_str (pma_cons (pm_var (pv 2)) pma_nil))) pma_nil))) (pma_cons (pm_tup (pma_cons (pm_tup (pma_cons pm_str pma_nil)) pma_nil)) pma_nil))))) (pma_cons (pm_tup (pma_cons pm_str pma_nil)) (pma_cons (pm_tup (pma_cons pm_str (pma_cons (pm_var (pv 1)) pma_nil))) pma_nil)))) pma_nil))) W t)))
      (pmss_one (pms_ret (pm_callF c__law_of hr (by rfl) (pma_cons (pm_var (pv 0)) (pma_cons (pm_var (pv 3)) pma_nil)))))))))))), ?_⟩
  rintro ds Wo Q E' - ⟨a, rfl, hs, q⟩
  try simp only [↓pC, ↓pOp, ↓pUn, ↓pSl, ↓pPart, ↓pNil, ↓pCons, ↓pTup, ↓pLst, ↓pCallB, ↓pTest, ↓pNot, ↓pAnd, ↓pOr, ↓pAndV, ↓pOrV, ↓pNotV, ↓pIf, ↓pNext, ↓pSeq, ↓pBreak, ↓pCont, ↓pDrop, ↓pRet, ↓pRetN, ↓pIfS, ↓pgNil, ↓pgCons, ↓pgTup, ↓pAsg, ↓pRaise, ↓pCall, ↓pIter, ↓pFor, ↓pLc, ↓pYes, ↓pkOf, ↓pIxK, ↓pTabG, ↓pLenK, ↓pChain, ↓pStore, ↓pAppend, ↓pPop, ↓poLst, ↓poDct, ↓pNewW, ↓pRng1, ↓pRng2, ↓pTry, ↓pTryAs, ↓oEq, ↓oNe, ↓oLen, ↓oSum, ↓oAll, ↓oAny, ↓oIsi, start0, List.map_cons, List.map_nil, List.length_cons, List.length_nil, List.cons_append, List.nil_append, List.getElem?_cons_zero, List.getElem?_cons_succ, List.set_cons_zero, List.set_cons_succ, List.replicate, D.bl.injEq, D.int.injEq, D.str.injEq, D.tup.injEq, D.lst.injEq, exists_eq_left', exists_eq_left, Option.some.injEq, Bool.false_eq_true, if_true, if_false, true_and, and_true, false_and, and_false, isi_int, isi_bool, isi_str, isi_tuple, isi_list, isiT_int, isiT_bool, isiT_str, isiT_tuple, isiT_list, Bool.not_true, Bool.not_false, dat_non, dat_bl, dat_int, dat_str, dat_tup, dat_lst, isInt_non, isInt_bl, isInt_int, isInt_str, isInt_tup, isInt_lst, isBool_non, isBool_bl, isBool_int, isBool_str, isBool_tup, isBool_lst, isStr_non, isStr_bl, isStr_int, isStr_str, isStr_tup, isStr_lst, isTup_non, isTup_bl, isTup_int, isTup_str, isTup_tup, isTup_lst, isLst_non, isLst_bl, isLst_int, isLst_str, isLst_tup, isLst_lst, Nat.reduceAdd, Nat.zero_add, sz_0, sz_1, sz_2, sz_3, sz_4, sz_5, sz_6, sz_7, sz_8, sz_9, sz_10, sz_11, sz_12, List.any_cons, List.any_nil, eqD_tup, eqD_str, eqD_int, eqDs_cons, eqDs_nil, eqDs_cn, eqDs_nc, Bool.or_false, Bool.and_true, at0, at1, at2, at3, at4, good_int, good_bl, good_nil, good_nilL, good_non, eqDs_nil_r, eqDs_nil_l, List.isEmpty_nil, List.isEmpty_cons, Bool.and_false, Bool.or_true, Bool.false_or, Bool.true_or, Bool.false_and, Bool.true_and, encB, wipS_mk, List.foldr_cons, List.foldr_nil, con_updW, ↓ixC_ownD, ↓oIx_tup, ↓oIx_lst, ↓oIx_str, ↓lenC_ownL, ↓lenC_ownD, ↓setC_ownD, putC_adr, Own_lst_inj, Con_own_inj, updW_upd, Nat.reduceSub, Nat.sub_self, ↓itD_lst, ↓itD_tup, ↓oInt_i, ↓oCmp_i, ↓oAdd_i, ↓oAdd_s, ↓oAdd_t, ↓oAdd_l, ↓oNeg_i, ↓o1I_i, ↓o2I_i, ↓oSl_t, ↓oSl_l, ↓oList_t, ↓oList_l, ↓oTuple_t, ↓oTuple_l, ↓oIn_t, ↓oIn_l, ↓oIsN_n, ↓ixC_ownLi, ↓setC_ownLi, ixN20, ixN21, ex_int1, ex_int2, ↓pSet_eq, ↓ixK_tup, ↓ixK_lst, ↓ixK_str, ↓ixK_dct, ↓lenK_tup, ↓lenK_lst, ↓lenK_str, ↓pSetO_eq, ↓pPar_eq, ↓kPar_mk, ↓pVarV0, ↓pVarV1, ↓pVarV2, ↓pVarV3, ↓pVarL0, ↓pVarL1, ↓pVarL2, ↓pVarL3, ↓pVarD0, ↓pVarD1, ↓pVarD2, ↓pVarD3, ↓pkVarV0, ↓pkVarV1, ↓pkVarV2, ↓pkVarV3, ↓pkVarO0, ↓pkVarO1, ↓pkVarO2, ↓pkVarO3, ↓kSetN0, ↓kSetN1, ↓kSetN2, ↓kSetN3, ↓kSetO_N0, ↓kSetO_N1, ↓kSetO_N2, ↓kSetO_N3, ↓pgNameN0, ↓pgNameN1, ↓pgNameN2, ↓pgNameN3, ↓ixS0, ↓ixS1, ↓ixS2, ↓ixS3, ↓lenS0, ↓lenS1, ↓lenS2, ↓lenS3, ↓setS0, ↓setS1, ↓setS2, ↓setS3, ↓conS0, ↓conS1, ↓conS2, ↓conS3, ↓putS0, ↓putS1, ↓putS2, ↓putS3]
  refine ⟨a, _, rfl, by decide, by decide, hs, fun n W1 n1 n2 d1 => ?_⟩
  try simp only [↓pC, ↓pOp, ↓pUn, ↓pSl, ↓pPart, ↓pNil, ↓pCons, ↓pTup, ↓pLst, ↓pCallB, ↓pTest, ↓pNot, ↓pAnd, ↓pOr, ↓pAndV, ↓pOrV, ↓pNotV, ↓pIf, ↓pNext, ↓pSeq, ↓pBreak, ↓pCont, ↓pDrop, ↓pRet, ↓pRetN, ↓pIfS, ↓pgNil, ↓pgCons, ↓pgTup, ↓pAsg, ↓pRaise, ↓pCall, ↓pIter, ↓pFor, ↓pLc, ↓pYes, ↓pkOf, ↓pIxK, ↓pTabG, ↓pLenK, ↓pChain, ↓pStore, ↓pAppend, ↓pPop, ↓poLst, ↓poDct, ↓pNewW, ↓pRng1, ↓pRng2, ↓pTry, ↓pTryAs, ↓oEq, ↓oNe, ↓oLen, ↓oSum, ↓oAll, ↓oAny, ↓oIsi, start0, List.map_cons, List.map_nil, List.length_cons, List.length_nil, List.cons_append, List.nil_append, List.getElem?_cons_zero, List.getElem?_cons_succ, List.set_cons_zero, List.set_cons_succ, List.replicate, D.bl.injEq, D.int.injEq, D.str.injEq, D.tup.injEq, D.lst.injEq, exists_eq_left', exists_eq_left, Option.some.injEq, Bool.false_eq_true, if_true, if_false, true_and, and_true, false_and, and_false, isi_int, isi_bool, isi_str, isi_tuple, isi_list, isiT_int, isiT_bool, isiT_str, isiT_tuple, isiT_list, Bool.not_true, Bool.not_false, dat_non, dat_bl, dat_int, dat_str, dat_tup, dat_lst, isInt_non, isInt_bl, isInt_int, isInt_str, isInt_tup, isInt_lst, isBool_non, isBool_bl, isBool_int, isBool_str, isBool_tup, isBool_lst, isStr_non, isStr_bl, isStr_int, isStr_str, isStr_tup, isStr_lst, isTup_non, isTup_bl, isTup_int, isTup_str, isTup_tup, isTup_lst, isLst_non, isLst_bl, isLst_int, isLst_str, isLst_tup, isLst_lst, Nat.reduceAdd, Nat.zero_add, sz_0, sz_1, sz_2, sz_3, sz_4, sz_5, sz_6, sz_7, sz_8, sz_9, sz_10, sz_11, sz_12, List.any_cons, List.any_nil, eqD_tup, eqD_str, eqD_int, eqDs_cons, eqDs_nil, eqDs_cn, eqDs_nc, Bool.or_false, Bool.and_true, at0, at1, at2, at3, at4, good_int, good_bl, good_nil, good_nilL, good_non, eqDs_nil_r, eqDs_nil_l, List.isEmpty_nil, List.isEmpty_cons, Bool.and_false, Bool.or_true, Bool.false_or, Bool.true_or, Bool.false_and, Bool.true_and, encB, wipS_mk, List.foldr_cons, List.foldr_nil, con_updW, ↓ixC_ownD, ↓oIx_tup, ↓oIx_lst, ↓oIx_str, ↓lenC_ownL, ↓lenC_ownD, ↓setC_ownD, putC_adr, Own_lst_inj, Con_own_inj, updW_upd, Nat.reduceSub, Nat.sub_self, ↓itD_lst, ↓itD_tup, ↓oInt_i, ↓oCmp_i, ↓oAdd_i, ↓oAdd_s, ↓oAdd_t, ↓oAdd_l, ↓oNeg_i, ↓o1I_i, ↓o2I_i, ↓oSl_t, ↓oSl_l, ↓oList_t, ↓oList_l, ↓oTuple_t, ↓oTuple_l, ↓oIn_t, ↓oIn_l, ↓oIsN_n, ↓ixC_ownLi, ↓setC_ownLi, ixN20, ixN21, ex_int1, ex_int2, ↓pSet_eq, ↓ixK_tup, ↓ixK_lst, ↓ixK_str, ↓ixK_dct, ↓lenK_tup, ↓lenK_lst, ↓lenK_str, ↓pSetO_eq, ↓pPar_eq, ↓kPar_mk, ↓pVarV0, ↓pVarV1, ↓pVarV2, ↓pVarV3, ↓pVarL0, ↓pVarL1, ↓pVarL2, ↓pVarL3, ↓pVarD0, ↓pVarD1, ↓pVarD2, ↓pVarD3, ↓pkVarV0, ↓pkVarV1, ↓pkVarV2, ↓pkVarV3, ↓pkVarO0, ↓pkVarO1, ↓pkVarO2, ↓pkVarO3, ↓kSetN0, ↓kSetN1, ↓kSetN2, ↓kSetN3, ↓kSetO_N0, ↓kSetO_N1, ↓kSetO_N2, ↓kSetO_N3, ↓pgNameN0, ↓pgNameN1, ↓pgNameN2, ↓pgNameN3, ↓ixS0, ↓ixS1, ↓ixS2, ↓ixS3, ↓lenS0, ↓lenS1, ↓lenS2, ↓lenS3, ↓setS0, ↓setS1, ↓setS2, ↓setS3, ↓conS0, ↓conS1, ↓conS2, ↓conS3, ↓putS0, ↓putS1, ↓putS2, ↓putS3]
  refine ⟨a, _, rfl, by decide, by decide, d1.src, fun m W2 m1 m2 d2 => ?_⟩
  have dd := d1.trans d2
  try simp only [↓pC, ↓pOp, ↓pUn, ↓pSl, ↓pPart, ↓pNil, ↓pCons, ↓pTup, ↓pLst, ↓pCallB, ↓pTest, ↓pNot, ↓pAnd, ↓pOr, ↓pAndV, ↓pOrV, ↓pNotV, ↓pIf, ↓pNext, ↓pSeq, ↓pBreak, ↓pCont, ↓pDrop, ↓pRet, ↓pRetN, ↓pIfS, ↓pgNil, ↓pgCons, ↓pgTup, ↓pAsg, ↓pRaise, ↓pCall, ↓pIter, ↓pFor, ↓pLc, ↓pYes, ↓pkOf, ↓pIxK, ↓pTabG, ↓pLenK, ↓pChain, ↓pStore, ↓pAppend, ↓pPop, ↓poLst, ↓poDct, ↓pNewW, ↓pRng1, ↓pRng2, ↓pTry, ↓pTryAs, ↓oEq, ↓oNe, ↓oLen, ↓oSum, ↓oAll, ↓oAny, ↓oIsi, start0, List.map_cons, List.map_nil, List.length_cons, List.length_nil, List.cons_append, List.nil_append, List.getElem?_cons_zero, List.getElem?_cons_succ, List.set_cons_zero, List.set_cons_succ, List.replicate, D.bl.injEq, D.int.injEq, D.str.injEq, D.tup.injEq, D.lst.injEq, exists_eq_left', exists_eq_left, Option.some.injEq, Bool.false_eq_true, if_true, if_false, true_and, and_true, false_and, and_false, isi_int, isi_bool, isi_str, isi_tuple, isi_list, isiT_int, isiT_bool, isiT_str, isiT_tuple, isiT_list, Bool.not_true, Bool.not_false, dat_non, dat_bl, dat_int, dat_str, dat_tup, dat_lst, isInt_non, isInt_bl, isInt_int, isInt_str, isInt_tup, isInt_lst, isBool_non, isBool_bl, isBool_int, isBool_str, isBool_tup, isBool_lst, isStr_non, isStr_bl, isStr_int, isStr_str, isStr_tup, isStr_lst, isTup_non, isTup_bl, isTup_int, isTup_str, isTup_tup, isTup_lst, isLst_non, isLst_bl, isLst_int, isLst_str, isLst_tup, isLst_lst, Nat.reduceAdd, Nat.zero_add, sz_0, sz_1, sz_2, sz_3, sz_4, sz_5, sz_6, sz_7, sz_8, sz_9, sz_10, sz_11, sz_12, List.any_cons, List.any_nil, eqD_tup, eqD_str, eqD_int, eqDs_cons, eqDs_nil, eqDs_cn, eqDs_nc, Bool.or_false, Bool.and_true, at0, at1, at2, at3, at4, good_int, good_bl, good_nil, good_nilL, good_non, eqDs_nil_r, eqDs_nil_l, List.isEmpty_nil, List.isEmpty_cons, Bool.and_false, Bool.or_true, Bool.false_or, Bool.true_or, Bool.false_and, Bool.true_and, encB, wipS_mk, List.foldr_cons, List.foldr_nil, con_updW, ↓ixC_ownD, ↓oIx_tup, ↓oIx_lst, ↓oIx_str, ↓lenC_ownL, ↓lenC_ownD, ↓setC_ownD, putC_adr, Own_lst_inj, Con_own_inj, updW_upd, Nat.reduceSub, Nat.sub_self, ↓itD_lst, ↓itD_tup, ↓oInt_i, ↓oCmp_i, ↓oAdd_i, ↓oAdd_s, ↓oAdd_t, ↓oAdd_l, ↓oNeg_i, ↓o1I_i, ↓o2I_i, ↓oSl_t, ↓oSl_l, ↓oList_t, ↓oList_l, ↓oTuple_t, ↓oTuple_l, ↓oIn_t, ↓oIn_l, ↓oIsN_n, ↓ixC_ownLi, ↓setC_ownLi, ixN20, ixN21, ex_int1, ex_int2, ↓pSet_eq, ↓ixK_tup, ↓ixK_lst, ↓ixK_str, ↓ixK_dct, ↓lenK_tup, ↓lenK_lst, ↓lenK_str, ↓pSetO_eq, ↓pPar_eq, ↓kPar_mk, ↓pVarV0, ↓pVarV1, ↓pVarV2, ↓pVarV3, ↓pVarL0, ↓pVarL1, ↓pVarL2, ↓pVarL3, ↓pVarD0, ↓pVarD1, ↓pVarD2, ↓pVarD3, ↓pkVarV0, ↓pkVarV1, ↓pkVarV2, ↓pkVarV3, ↓pkVarO0, ↓pkVarO1, ↓pkVarO2, ↓pkVarO3, ↓kSetN0, ↓kSetN1, ↓kSetN2, ↓kSetN3, ↓kSetO_N0, ↓kSetO_N1, ↓kSetO_N2, ↓kSetO_N3, ↓pgNameN0, ↓pgNameN1, ↓pgNameN2, ↓pgNameN3, ↓ixS0, ↓ixS1, ↓ixS2, ↓ixS3, ↓lenS0, ↓lenS1, ↓lenS2, ↓lenS3, ↓setS0, ↓setS1, ↓setS2, ↓setS3, ↓conS0, ↓conS1, ↓conS2, ↓conS3, ↓putS0, ↓putS1, ↓putS2, ↓putS3]
  refine ⟨a, _, (knL (1 + n) (1 + m)).map encB, rfl, rfl, by simp [knL], by simp [knL], d2.src, fun x W3 hx d3 => ?_⟩
  obtain ⟨b, hb, rfl⟩ := List.mem_map.mp hx
  obtain ⟨h1, h2⟩ := knL_ok (by omega) (by omega) (by omega) (by omega) b hb
  exact q b W3 h1 h2 (dd.trans d3)
abbrev s__law_bent : Stmt := topS 33
abbrev N__law_bent : List Str := ["source", "body", "at", "way", "ahead", "behind"]
theorem sc__law_bent : FnScope N__law_bent ["source", "body"] (defScope s__law_bent) := ⟨rfl, rfl, rfl, by decide +kernel, rfl, by decide +kernel, by decide +kernel⟩
theorem ok__law_bent  {k : Nat}  (T : TopD K mg "_law_bent" ["source", "body"] s__law_bent) (c__law_simple : CallF P w K mg base "_law_simple" 1 k (φ__law_simple)) (c__law_draw : CallF P w K mg base "_law_draw" 2 k (φ__law_draw)) (m_len : mg "len" = none)  :
    CallF P w K mg base "_law_bent" 2 (k + 1) (φ__law_bent) := by
  refine call_of (N := N__law_bent) (k := k) T sc__law_bent fun f cdv A outer s H E hr => ⟨_, (pmss_cons (pms_if (pmt_cmp (od_eq (Room.hu64 hr)) (pm_var (pv 1)) (pm_tup pma_nil) (nomark _)) (pmss_one (pms_ret (pm_tup (pma_cons (pm_tup (pma_cons pm_str (pma_cons pm_int pma_nil))) pma_nil)))) pmss_nil)
      (pmss_cons (pms_par (i := 2) (j := 3) (fun W t => ps_par (i := 2) (j := 3) rfl sc__law_bent.nd rfl rfl (by decide) rfl rfl ((pma_cons (pm_callF c__law_draw hr (by rfl) (pma_cons (pm_var (pv 0)) (pma_cons (pm_lenK (by rfl) m_len (pk_var (pv 1))) pma_nil))) (pma_cons (pm_callF c__law_draw hr (by rfl) (pma_cons (pm_var (pv 0)) (pma_cons pm_int pma_nil))) pma_nil)) W t) (by rfl)))
      (pmss_cons (pms_par (i := 4) (j := 5) (fun W t => ps_par (i := 4) (j := 5) rfl sc__law_bent.nd rfl rfl (by decide) rfl rfl ((pma_cons (pm_slice sld (pm_var (pv 1)) (.inl ⟨rfl, rfl⟩) (.inr ⟨_, _, rfl, rfl, (pm_var (pv 2))⟩)) (pma_cons (pm_slice sld (pm_var (pv 1)) (.inr ⟨_, _, rfl, rfl, (pm_op od_add (pm_var (pv 2)) pm_int)⟩) (.inl ⟨rfl, rfl⟩)) pma_nil)) W t) (by rfl)))
      (pmss_cons (pms_if (pmt_cmp (od_eq (Room.hu64 hr)) (pm_var (pv 3)) pm_int (nomark _)) (pmss_one (pms_ret (pm_op od_add (pm_var (pv 4)) (pm_var (pv 5))))) pmss_nil)
      (pmss_cons (pms_if (pmt_cmp (od_eq (Room.hu64 hr)) (pm_var (pv 3)) pm_int (nomark _)) (pmss_one (pms_ret (pm_op od_add (pm_op od_add (pm_op od_add (pm_var (pv 4)) (pm_slice sld (pm_var (pv 5)) (.inl ⟨rfl, rfl⟩) (.inr ⟨_, _, rfl, rfl, pm_int⟩))) (pm_tup (pma_cons (pm_ixK (Room.hu1 hr) (pk_var (pv 1)) (pm_var (pv 2)) (fun _ _ => rfl)) pma_nil))) (pm_slice sld (pm_var (pv 5)) (.inr ⟨_, _, rfl, rfl, pm_int⟩) (.inl ⟨rfl, rfl⟩))))) pmss_nil)
      (pmss_one (pms_ret (pm_op od_add (pm_op od_add (pm_var (pv 4)) (pm_tup (pma_cons (pm_callF c__law_simple hr (by rfl) (pma_cons (pm_var (pv 0)) pma_nil)) pma_nil))) (pm_var (pv 5)))))))))), ?_⟩
  rintro ds Wo Q E' - ⟨a, b, rfl, hb, h7, hs, q⟩
  have g0 : D.good (.tup (encSs b)) = true := good_B hb
  have hl : (encSs b).length = b.length := by rw [encSs_map, List.length_map]
  have hbo := (okB_iff.mp hb).2
  try simp only [g0, ↓pC, ↓pOp, ↓pUn, ↓pSl, ↓pPart, ↓pNil, ↓pCons, ↓pTup, ↓pLst, ↓pCallB, ↓pTest, ↓pNot, ↓pAnd, ↓pOr, ↓pAndV, ↓pOrV, ↓pNotV, ↓pIf, ↓pNext, ↓pSeq, ↓pBreak, ↓pCont, ↓pDrop, ↓pRet, ↓pRetN, ↓pIfS, ↓pgNil, ↓pgCons, ↓pgTup, ↓pAsg, ↓pRaise, ↓pCall, ↓pIter, ↓pFor, ↓pLc, ↓pYes, ↓pkOf, ↓pIxK, ↓pTabG, ↓pLenK, ↓pChain, ↓pStore, ↓pAppend, ↓pPop, ↓poLst, ↓poDct, ↓pNewW, ↓pRng1, ↓pRng2, ↓pTry, ↓pTryAs, ↓oEq, ↓oNe, ↓oLen, ↓oSum, ↓oAll, ↓oAny, ↓oIsi, start0, List.map_cons, List.map_nil, List.length_cons, List.length_nil, List.cons_append, List.nil_append, List.getElem?_cons_zero, List.getElem?_cons_succ, List.set_cons_zero, List.set_cons_succ, List.replicate, D.bl.injEq, D.int.injEq, D.str.injEq, D.tup.injEq, D.lst.injEq, exists_eq_left', exists_eq_left, Option.some.injEq, Bool.false_eq_true, if_true, if_false, true_and, and_true, false_and, and_false, isi_int, isi_bool, isi_str, isi_tuple, isi_list, isiT_int, isiT_bool, isiT_str, isiT_tuple, isiT_list, Bool.not_true, Bool.not_false, dat_non, dat_bl, dat_int, dat_str, dat_tup, dat_lst, isInt_non, isInt_bl, isInt_int, isInt_str, isInt_tup, isInt_lst, isBool_non, isBool_bl, isBool_int, isBool_str, isBool_tup, isBool_lst, isStr_non, isStr_bl, isStr_int, isStr_str, isStr_tup, isStr_lst, isTup_non, isTup_bl, isTup_int, isTup_str, isTup_tup, isTup_lst, isLst_non, isLst_bl, isLst_int, isLst_str, isLst_tup, isLst_lst, Nat.reduceAdd, Nat.zero_add, sz_0, sz_1, sz_2, sz_3, sz_4, sz_5, sz_6, sz_7, sz_8, sz_9, sz_10, sz_11, sz_12, List.any_cons, List.any_nil, eqD_tup, eqD_str, eqD_int, eqDs_cons, eqDs_nil, eqDs_cn, eqDs_nc, Bool.or_false, Bool.and_true, at0, at1, at2, at3, at4, good_int, good_bl, good_nil, good_nilL, good_non, eqDs_nil_r, eqDs_nil_l, List.isEmpty_nil, List.isEmpty_cons, Bool.and_false, Bool.or_true, Bool.false_or, Bool.true_or, Bool.false_and, Bool.true_and, encB, wipS_mk, List.foldr_cons, List.foldr_nil, con_updW, ↓ixC_ownD, ↓oIx_tup, ↓oIx_lst, ↓oIx_str, ↓lenC_ownL, ↓lenC_ownD, ↓setC_ownD, putC_adr, Own_lst_inj, Con_own_inj, updW_upd, Nat.reduceSub, Nat.sub_self, ↓itD_lst, ↓itD_tup, ↓oInt_i, ↓oCmp_i, ↓oAdd_i, ↓oAdd_s, ↓oAdd_t, ↓oAdd_l, ↓oNeg_i, ↓o1I_i, ↓o2I_i, ↓oSl_t, ↓oSl_l, ↓oList_t, ↓oList_l, ↓oTuple_t, ↓oTuple_l, ↓oIn_t, ↓oIn_l, ↓oIsN_n, ↓ixC_ownLi, ↓setC_ownLi, ixN20, ixN21, ex_int1, ex_int2, ↓pSet_eq, ↓ixK_tup, ↓ixK_lst, ↓ixK_str, ↓ixK_dct, ↓lenK_tup, ↓lenK_lst, ↓lenK_str, ↓pSetO_eq, ↓pPar_eq, ↓kPar_mk, ↓pVarV0, ↓pVarV1, ↓pVarV2, ↓pVarV3, ↓pVarV4, ↓pVarV5, ↓pVarL0, ↓pVarL1, ↓pVarL2, ↓pVarL3, ↓pVarL4, ↓pVarL5, ↓pVarD0, ↓pVarD1, ↓pVarD2, ↓pVarD3, ↓pVarD4, ↓pVarD5, ↓pkVarV0, ↓pkVarV1, ↓pkVarV2, ↓pkVarV3, ↓pkVarV4, ↓pkVarV5, ↓pkVarO0, ↓pkVarO1, ↓pkVarO2, ↓pkVarO3, ↓pkVarO4, ↓pkVarO5, ↓kSetN0, ↓kSetN1, ↓kSetN2, ↓kSetN3, ↓kSetN4, ↓kSetN5, ↓kSetO_N0, ↓kSetO_N1, ↓kSetO_N2, ↓kSetO_N3, ↓kSetO_N4, ↓kSetO_N5, ↓pgNameN0, ↓pgNameN1, ↓pgNameN2, ↓pgNameN3, ↓pgNameN4, ↓pgNameN5, ↓ixS0, ↓ixS1, ↓ixS2, ↓ixS3, ↓ixS4, ↓ixS5, ↓lenS0, ↓lenS1, ↓lenS2, ↓lenS3, ↓lenS4, ↓lenS5, ↓setS0, ↓setS1, ↓setS2, ↓setS3, ↓setS4, ↓setS5, ↓conS0, ↓conS1, ↓conS2, ↓conS3, ↓conS4, ↓conS5, ↓putS0, ↓putS1, ↓putS2, ↓putS3, ↓putS4, ↓putS5]
  refine ite2 (fun c => q [.wait 1] _ rfl hs.dr) (fun c => ?_)
  have hp : 0 < b.length := by
    cases b with
    | nil => exact absurd rfl c
    | cons s r => simp
  refine ⟨a, _, rfl, by omega, by omega, hs, fun i W1 i1 i2 d1 => ?_⟩
  refine ⟨a, _, rfl, by decide, by decide, d1.src, fun w W2 w1 w2 d2 => ?_⟩
  have dd := d1.trans d2
  obtain ⟨j, rfl⟩ := Int.eq_ofNat_of_zero_le i1
  have hj : j < b.length := by omega
  try simp only [↓pC, ↓pOp, ↓pUn, ↓pSl, ↓pPart, ↓pNil, ↓pCons, ↓pTup, ↓pLst, ↓pCallB, ↓pTest, ↓pNot, ↓pAnd, ↓pOr, ↓pAndV, ↓pOrV, ↓pNotV, ↓pIf, ↓pNext, ↓pSeq, ↓pBreak, ↓pCont, ↓pDrop, ↓pRet, ↓pRetN, ↓pIfS, ↓pgNil, ↓pgCons, ↓pgTup, ↓pAsg, ↓pRaise, ↓pCall, ↓pIter, ↓pFor, ↓pLc, ↓pYes, ↓pkOf, ↓pIxK, ↓pTabG, ↓pLenK, ↓pChain, ↓pStore, ↓pAppend, ↓pPop, ↓poLst, ↓poDct, ↓pNewW, ↓pRng1, ↓pRng2, ↓pTry, ↓pTryAs, ↓oEq, ↓oNe, ↓oLen, ↓oSum, ↓oAll, ↓oAny, ↓oIsi, start0, List.map_cons, List.map_nil, List.length_cons, List.length_nil, List.cons_append, List.nil_append, List.getElem?_cons_zero, List.getElem?_cons_succ, List.set_cons_zero, List.set_cons_succ, List.replicate, D.bl.injEq, D.int.injEq, D.str.injEq, D.tup.injEq, D.lst.injEq, exists_eq_left', exists_eq_left, Option.some.injEq, Bool.false_eq_true, if_true, if_false, true_and, and_true, false_and, and_false, isi_int, isi_bool, isi_str, isi_tuple, isi_list, isiT_int, isiT_bool, isiT_str, isiT_tuple, isiT_list, Bool.not_true, Bool.not_false, dat_non, dat_bl, dat_int, dat_str, dat_tup, dat_lst, isInt_non, isInt_bl, isInt_int, isInt_str, isInt_tup, isInt_lst, isBool_non, isBool_bl, isBool_int, isBool_str, isBool_tup, isBool_lst, isStr_non, isStr_bl, isStr_int, isStr_str, isStr_tup, isStr_lst, isTup_non, isTup_bl, isTup_int, isTup_str, isTup_tup, isTup_lst, isLst_non, isLst_bl, isLst_int, isLst_str, isLst_tup, isLst_lst, Nat.reduceAdd, Nat.zero_add, sz_0, sz_1, sz_2, sz_3, sz_4, sz_5, sz_6, sz_7, sz_8, sz_9, sz_10, sz_11, sz_12, List.any_cons, List.any_nil, eqD_tup, eqD_str, eqD_int, eqDs_cons, eqDs_nil, eqDs_cn, eqDs_nc, Bool.or_false, Bool.and_true, at0, at1, at2, at3, at4, good_int, good_bl, good_nil, good_nilL, good_non, eqDs_nil_r, eqDs_nil_l, List.isEmpty_nil, List.isEmpty_cons, Bool.and_false, Bool.or_true, Bool.false_or, Bool.true_or, Bool.false_and, Bool.true_and, encB, wipS_mk, List.foldr_cons, List.foldr_nil, con_updW, ↓ixC_ownD, ↓oIx_tup, ↓oIx_lst, ↓oIx_str, ↓lenC_ownL, ↓lenC_ownD, ↓setC_ownD, putC_adr, Own_lst_inj, Con_own_inj, updW_upd, Nat.reduceSub, Nat.sub_self, ↓itD_lst, ↓itD_tup, ↓oInt_i, ↓oCmp_i, ↓oAdd_i, ↓oAdd_s, ↓oAdd_t, ↓oAdd_l, ↓oNeg_i, ↓o1I_i, ↓o2I_i, ↓oSl_t, ↓oSl_l, ↓oList_t, ↓oList_l, ↓oTuple_t, ↓oTuple_l, ↓oIn_t, ↓oIn_l, ↓oIsN_n, ↓ixC_ownLi, ↓setC_ownLi, ixN20, ixN21, ex_int1, ex_int2, ↓pSet_eq, ↓ixK_tup, ↓ixK_lst, ↓ixK_str, ↓ixK_dct, ↓lenK_tup, ↓lenK_lst, ↓lenK_str, ↓pSetO_eq, ↓pPar_eq, ↓kPar_mk, ↓pVarV0, ↓pVarV1, ↓pVarV2, ↓pVarV3, ↓pVarV4, ↓pVarV5, ↓pVarL0, ↓pVarL1, ↓pVarL2, ↓pVarL3, ↓pVarL4, ↓pVarL5, ↓pVarD0, ↓pVarD1, ↓pVarD2, ↓pVarD3, ↓pVarD4, ↓pVarD5, ↓pkVarV0, ↓pkVarV1, ↓pkVarV2, ↓pkVarV3, ↓pkVarV4, ↓pkVarV5, ↓pkVarO0, ↓pkVarO1, ↓pkVarO2, ↓pkVarO3, ↓pkVarO4, ↓pkVarO5, ↓kSetN0, ↓kSetN1, ↓kSetN2, ↓kSetN3, ↓kSetN4, ↓kSetN5, ↓kSetO_N0, ↓kSetO_N1, ↓kSetO_N2, ↓kSetO_N3, ↓kSetO_N4, ↓kSetO_N5, ↓pgNameN0, ↓pgNameN1, ↓pgNameN2, ↓pgNameN3, ↓pgNameN4, ↓pgNameN5, ↓ixS0, ↓ixS1, ↓ixS2, ↓ixS3, ↓ixS4, ↓ixS5, ↓lenS0, ↓lenS1, ↓lenS2, ↓lenS3, ↓lenS4, ↓lenS5, ↓setS0, ↓setS1, ↓setS2, ↓setS3, ↓setS4, ↓setS5, ↓conS0, ↓conS1, ↓conS2, ↓conS3, ↓conS4, ↓conS5, ↓putS0, ↓putS1, ↓putS2, ↓putS3, ↓putS4, ↓putS5]
  have e1 : (j : Int) + 1 = ((j + 1 : Nat) : Int) := by omega
  have hz : ∀ n : Nat, n ≤ 100 → n ≤ sizeLine := fun n h => by show n ≤ 2 ^ 24; omega
  simp only [e1, cut_toN, cut_fromN, cut_to1, cut_from1, encSs_map]
  simp only [← List.map_take, ← List.map_drop, ← List.map_append, ← List.map_cons, List.length_map, List.length_append, List.length_take, List.length_drop]
  have fin : ∀ (l : List Stm) W', l.length ≤ 8 → (∀ x ∈ l, x ∈ b ∨ okS 3 x = true) → Dr Wo a W' → Q (.tup (l.map encS)) W' := fun l W' h1 h2 h3 => by
    have := q l W' (okB_iff.mpr ⟨h1, fun x hx => (h2 x hx).elim (hbo x) id⟩) h3
    rwa [encB, encSs_map] at this
  have tk : ∀ (n : Nat) (l : List Stm) x, x ∈ l.take n → x ∈ l := fun n l x h => List.mem_of_mem_take h
  have dp : ∀ (n : Nat) (l : List Stm) x, x ∈ l.drop n → x ∈ l := fun n l x h => List.mem_of_mem_drop h
  refine ite2 (fun _ => ?_) (fun _ => ite2 (fun _ => ?_) (fun _ => ?_))
  · refine ⟨hz _ (by omega), fin _ _ (by simp; omega) (fun x hx => .inl ?_) dd⟩
    rcases List.mem_append.mp hx with h | h
    · exact tk _ _ _ h
    · exact dp _ _ _ h
  · refine ⟨hz _ (by omega), encS (b[j]), atI_nat (by rw [List.getElem?_map, List.getElem?_eq_getElem hj]; rfl), hz _ (by omega), hz _ (by simp; omega), ?_⟩
    have e2 : [encS b[j]] = [b[j]].map encS := rfl
    rw [e2, ← List.map_append, ← List.map_append]
    refine fin _ _ (by simp; omega) (fun x hx => .inl ?_) dd
    simp only [List.mem_append, List.mem_singleton] at hx
    rcases hx with ((h | h) | h) | h
    · exact tk _ _ _ h
    · exact dp _ _ _ (tk _ _ _ h)
    · rw [h]; exact List.getElem_mem hj
    · exact dp _ _ _ (dp _ _ _ h)
  · refine ⟨a, rfl, d2.src, fun s W3 hs3 d3 => ?_⟩
    have e2 : [encS s] = [s].map encS := rfl
    refine ⟨hz _ (by omega), hz _ (by simp; omega), ?_⟩
    rw [e2, ← List.map_append, ← List.map_append]
    refine fin _ _ (by simp; omega) (fun x hx => ?_) (dd.trans d3)
    simp only [List.mem_append, List.mem_singleton] at hx
    rcases hx with (h | h) | h
    · exact .inl (tk _ _ _ h)
    · rw [h]; exact .inr (simS_ok hs3 2)
    · exact .inl (dp _ _ _ h)
abbrev s__law_loop : Stmt := topS 34
abbrev N__law_loop : List Str := ["source", "least", "way", "most", "body"]
theorem sc__law_loop : FnScope N__law_loop ["source"] (defScope s__law_loop) := ⟨rfl, rfl, rfl, by decide +kernel, rfl, by decide +kernel, by decide +kernel⟩
theorem ok__law_loop  {k : Nat}  (T : TopD K mg "_law_loop" ["source"] s__law_loop) (c__law_draw : CallF P w K mg base "_law_draw" 2 k (φ__law_draw)) (c__law_size : CallF P w K mg base "_law_size" 1 k (φ__law_size 3)) (c__law_bent : CallF P w K mg base "_law_bent" 2 k (φ__law_bent)) (c__law_known : CallF P w K mg base "_law_known" 1 k (φ__law_known)) (c__law_body : CallF P w K mg base "_law_body" 3 k (φ__law_body 3))  :
    CallF P w K mg base "_law_loop" 1 (k + 1) (φ__law_loop) := by
  refine call_of (N := N__law_loop) (k := k) T sc__law_loop fun f cdv A outer s H E hr => ⟨_, (pmss_cons (pms_par (i := 1) (j := 2) (fun W t => ps_par (i := 1) (j := 2) rfl sc__law_loop.nd rfl rfl (by decide) rfl rfl ((pma_cons (pm_callF c__law_draw hr (by rfl) (pma_cons (pm_var (pv 0)) (pma_cons pm_int pma_nil))) (pma_cons (pm_callF c__law_draw hr (by rfl) (pma_cons (pm_var (pv 0)) (pma_cons pm_int pma_nil))) pma_nil)) W t) (by rfl)))
      (pmss_cons (pms_set (i := 3) (fun W t => ps_set (i := 3) sc__law_loop.nd rfl (.inl rfl) ((pm_op od_add (pm_var (pv 1)) (pm_callF c__law_draw hr (by rfl) (pma_cons (pm_var (pv 0)) (pma_cons pm_int pma_nil)))) W t)))
      (pmss_cons (pms_set (i := 4) (fun W t => ps_set (i := 4) sc__law_loop.nd rfl (.inl rfl) ((pm_ifExp (pmt_cmp od_lt (pm_var (pv 2)) pm_int (nomark _)) (pm_callF c__law_known hr (by rfl) (pma_cons (pm_var (pv 0)) pma_nil)) (pm_callF c__law_body hr (by rfl) (pma_cons (pm_var (pv 0)) (pma_cons pm_int (pma_cons pm_int pma_nil))))) W t)))
      (pmss_cons (pms_if (pmt_w (pmw_or (pmt_cmp (od_eq (Room.hu64 hr)) (pm_var (pv 2)) pm_int (nomark _)) (pmw_or1 (pmt_cmp (od_eq (Room.hu64 hr)) (pm_var (pv 2)) pm_int (nomark _))))) (pmss_one (pms_set (i := 4) (fun W t => ps_set (i := 4) sc__law_loop.nd rfl (.inl rfl) ((pm_callF c__law_bent hr (by rfl) (pma_cons (pm_var (pv 0)) (pma_cons (pm_var (pv 4)) pma_nil))) W t)))) pmss_nil)
      (pmss_cons (pms_if (pmt_cmp od_gt (pm_callF c__law_size hr (by rfl) (pma_cons (pm_var (pv 4)) pma_nil)) pm_int (nomark _)) (pmss_one (pms_set (i := 4) (fun W t => ps_set (i := 4) sc__law_loop.nd rfl (.inl rfl) ((pm_tup (pma_cons (pm_tup (pma_cons pm_str pma_nil)) (pma_cons (pm_tup (pma_cons pm_str (pma_cons pm_int pma_nil))) pma_nil))) W t)))) pmss_nil)
      (pmss_one (pms_ret (pm_tup (pma_cons (pm_var (pv 1)) (pma_cons (pm_var (pv 3)) (pma_cons (pm_callF c__law_draw hr (by rfl) (pma_cons (pm_var (pv 0)) (pma_cons pm_int pma_nil))) (pma_cons (pm_var (pv 4)) pma_nil)))))))))))), ?_⟩
  rintro ds Wo Q E' - ⟨a, rfl, hs, q⟩
  try simp only [↓pC, ↓pOp, ↓pUn, ↓pSl, ↓pPart, ↓pNil, ↓pCons, ↓pTup, ↓pLst, ↓pCallB, ↓pTest, ↓pNot, ↓pAnd, ↓pOr, ↓pAndV, ↓pOrV, ↓pNotV, ↓pIf, ↓pNext, ↓pSeq, ↓pBreak, ↓pCont, ↓pDrop, ↓pRet, ↓pRetN, ↓pIfS, ↓pgNil, ↓pgCons, ↓pgTup, ↓pAsg, ↓pRaise, ↓pCall, ↓pIter, ↓pFor, ↓pLc, ↓pYes, ↓pkOf, ↓pIxK, ↓pTabG, ↓pLenK, ↓pChain, ↓pStore, ↓pAppend, ↓pPop, ↓poLst, ↓poDct, ↓pNewW, ↓pRng1, ↓pRng2, ↓pTry, ↓pTryAs, ↓oEq, ↓oNe, ↓oLen, ↓oSum, ↓oAll, ↓oAny, ↓oIsi, start0, List.map_cons, List.map_nil, List.length_cons, List.length_nil, List.cons_append, List.nil_append, List.getElem?_cons_zero, List.getElem?_cons_succ, List.set_cons_zero, List.set_cons_succ, List.replicate, D.bl.injEq, D.int.injEq, D.str.injEq, D.tup.injEq, D.lst.injEq, exists_eq_left', exists_eq_left, Option.some.injEq, Bool.false_eq_true, if_true, if_false, true_and, and_true, false_and, and_false, isi_int, isi_bool, isi_str, isi_tuple, isi_list, isiT_int, isiT_bool, isiT_str, isiT_tuple, isiT_list, Bool.not_true, Bool.not_false, dat_non, dat_bl, dat_int, dat_str, dat_tup, dat_lst, isInt_non, isInt_bl, isInt_int, isInt_str, isInt_tup, isInt_lst, isBool_non, isBool_bl, isBool_int, isBool_str, isBool_tup, isBool_lst, isStr_non, isStr_bl, isStr_int, isStr_str, isStr_tup, isStr_lst, isTup_non, isTup_bl, isTup_int, isTup_str, isTup_tup, isTup_lst, isLst_non, isLst_bl, isLst_int, isLst_str, isLst_tup, isLst_lst, Nat.reduceAdd, Nat.zero_add, sz_0, sz_1, sz_2, sz_3, sz_4, sz_5, sz_6, sz_7, sz_8, sz_9, sz_10, sz_11, sz_12, List.any_cons, List.any_nil, eqD_tup, eqD_str, eqD_int, eqDs_cons, eqDs_nil, eqDs_cn, eqDs_nc, Bool.or_false, Bool.and_true, at0, at1, at2, at3, at4, good_int, good_bl, good_nil, good_nilL, good_non, eqDs_nil_r, eqDs_nil_l, List.isEmpty_nil, List.isEmpty_cons, Bool.and_false, Bool.or_true, Bool.false_or, Bool.true_or, Bool.false_and, Bool.true_and, encB, wipS_mk, List.foldr_cons, List.foldr_nil, con_updW, ↓ixC_ownD, ↓oIx_tup, ↓oIx_lst, ↓oIx_str, ↓lenC_ownL, ↓lenC_ownD, ↓setC_ownD, putC_adr, Own_lst_inj, Con_own_inj, updW_upd, Nat.reduceSub, Nat.sub_self, ↓itD_lst, ↓itD_tup, ↓oInt_i, ↓oCmp_i, ↓oAdd_i, ↓oAdd_s, ↓oAdd_t, ↓oAdd_l, ↓oNeg_i, ↓o1I_i, ↓o2I_i, ↓oSl_t, ↓oSl_l, ↓oList_t, ↓oList_l, ↓oTuple_t, ↓oTuple_l, ↓oIn_t, ↓oIn_l, ↓oIsN_n, ↓ixC_ownLi, ↓setC_ownLi, ixN20, ixN21, ex_int1, ex_int2, ↓pSet_eq, ↓ixK_tup, ↓ixK_lst, ↓ixK_str, ↓ixK_dct, ↓lenK_tup, ↓lenK_lst, ↓lenK_str, ↓pSetO_eq, ↓pPar_eq, ↓kPar_mk, ↓pVarV0, ↓pVarV1, ↓pVarV2, ↓pVarV3, ↓pVarV4, ↓pVarL0, ↓pVarL1, ↓pVarL2, ↓pVarL3, ↓pVarL4, ↓pVarD0, ↓pVarD1, ↓pVarD2, ↓pVarD3, ↓pVarD4, ↓pkVarV0, ↓pkVarV1, ↓pkVarV2, ↓pkVarV3, ↓pkVarV4, ↓pkVarO0, ↓pkVarO1, ↓pkVarO2, ↓pkVarO3, ↓pkVarO4, ↓kSetN0, ↓kSetN1, ↓kSetN2, ↓kSetN3, ↓kSetN4, ↓kSetO_N0, ↓kSetO_N1, ↓kSetO_N2, ↓kSetO_N3, ↓kSetO_N4, ↓pgNameN0, ↓pgNameN1, ↓pgNameN2, ↓pgNameN3, ↓pgNameN4, ↓ixS0, ↓ixS1, ↓ixS2, ↓ixS3, ↓ixS4, ↓lenS0, ↓lenS1, ↓lenS2, ↓lenS3, ↓lenS4, ↓setS0, ↓setS1, ↓setS2, ↓setS3, ↓setS4, ↓conS0, ↓conS1, ↓conS2, ↓conS3, ↓conS4, ↓putS0, ↓putS1, ↓putS2, ↓putS3, ↓putS4]
  refine ⟨a, _, rfl, by decide, by decide, hs, fun n W1 n1 n2 d1 => ?_⟩
  refine ⟨a, _, rfl, by decide, by decide, d1.src, fun w W2 w1 w2 d2 => ?_⟩
  try simp only [↓pC, ↓pOp, ↓pUn, ↓pSl, ↓pPart, ↓pNil, ↓pCons, ↓pTup, ↓pLst, ↓pCallB, ↓pTest, ↓pNot, ↓pAnd, ↓pOr, ↓pAndV, ↓pOrV, ↓pNotV, ↓pIf, ↓pNext, ↓pSeq, ↓pBreak, ↓pCont, ↓pDrop, ↓pRet, ↓pRetN, ↓pIfS, ↓pgNil, ↓pgCons, ↓pgTup, ↓pAsg, ↓pRaise, ↓pCall, ↓pIter, ↓pFor, ↓pLc, ↓pYes, ↓pkOf, ↓pIxK, ↓pTabG, ↓pLenK, ↓pChain, ↓pStore, ↓pAppend, ↓pPop, ↓poLst, ↓poDct, ↓pNewW, ↓pRng1, ↓pRng2, ↓pTry, ↓pTryAs, ↓oEq, ↓oNe, ↓oLen, ↓oSum, ↓oAll, ↓oAny, ↓oIsi, start0, List.map_cons, List.map_nil, List.length_cons, List.length_nil, List.cons_append, List.nil_append, List.getElem?_cons_zero, List.getElem?_cons_succ, List.set_cons_zero, List.set_cons_succ, List.replicate, D.bl.injEq, D.int.injEq, D.str.injEq, D.tup.injEq, D.lst.injEq, exists_eq_left', exists_eq_left, Option.some.injEq, Bool.false_eq_true, if_true, if_false, true_and, and_true, false_and, and_false, isi_int, isi_bool, isi_str, isi_tuple, isi_list, isiT_int, isiT_bool, isiT_str, isiT_tuple, isiT_list, Bool.not_true, Bool.not_false, dat_non, dat_bl, dat_int, dat_str, dat_tup, dat_lst, isInt_non, isInt_bl, isInt_int, isInt_str, isInt_tup, isInt_lst, isBool_non, isBool_bl, isBool_int, isBool_str, isBool_tup, isBool_lst, isStr_non, isStr_bl, isStr_int, isStr_str, isStr_tup, isStr_lst, isTup_non, isTup_bl, isTup_int, isTup_str, isTup_tup, isTup_lst, isLst_non, isLst_bl, isLst_int, isLst_str, isLst_tup, isLst_lst, Nat.reduceAdd, Nat.zero_add, sz_0, sz_1, sz_2, sz_3, sz_4, sz_5, sz_6, sz_7, sz_8, sz_9, sz_10, sz_11, sz_12, List.any_cons, List.any_nil, eqD_tup, eqD_str, eqD_int, eqDs_cons, eqDs_nil, eqDs_cn, eqDs_nc, Bool.or_false, Bool.and_true, at0, at1, at2, at3, at4, good_int, good_bl, good_nil, good_nilL, good_non, eqDs_nil_r, eqDs_nil_l, List.isEmpty_nil, List.isEmpty_cons, Bool.and_false, Bool.or_true, Bool.false_or, Bool.true_or, Bool.false_and, Bool.true_and, encB, wipS_mk, List.foldr_cons, List.foldr_nil, con_updW, ↓ixC_ownD, ↓oIx_tup, ↓oIx_lst, ↓oIx_str, ↓lenC_ownL, ↓lenC_ownD, ↓setC_ownD, putC_adr, Own_lst_inj, Con_own_inj, updW_upd, Nat.reduceSub, Nat.sub_self, ↓itD_lst, ↓itD_tup, ↓oInt_i, ↓oCmp_i, ↓oAdd_i, ↓oAdd_s, ↓oAdd_t, ↓oAdd_l, ↓oNeg_i, ↓o1I_i, ↓o2I_i, ↓oSl_t, ↓oSl_l, ↓oList_t, ↓oList_l, ↓oTuple_t, ↓oTuple_l, ↓oIn_t, ↓oIn_l, ↓oIsN_n, ↓ixC_ownLi, ↓setC_ownLi, ixN20, ixN21, ex_int1, ex_int2, ↓pSet_eq, ↓ixK_tup, ↓ixK_lst, ↓ixK_str, ↓ixK_dct, ↓lenK_tup, ↓lenK_lst, ↓lenK_str, ↓pSetO_eq, ↓pPar_eq, ↓kPar_mk, ↓pVarV0, ↓pVarV1, ↓pVarV2, ↓pVarV3, ↓pVarV4, ↓pVarL0, ↓pVarL1, ↓pVarL2, ↓pVarL3, ↓pVarL4, ↓pVarD0, ↓pVarD1, ↓pVarD2, ↓pVarD3, ↓pVarD4, ↓pkVarV0, ↓pkVarV1, ↓pkVarV2, ↓pkVarV3, ↓pkVarV4, ↓pkVarO0, ↓pkVarO1, ↓pkVarO2, ↓pkVarO3, ↓pkVarO4, ↓kSetN0, ↓kSetN1, ↓kSetN2, ↓kSetN3, ↓kSetN4, ↓kSetO_N0, ↓kSetO_N1, ↓kSetO_N2, ↓kSetO_N3, ↓kSetO_N4, ↓pgNameN0, ↓pgNameN1, ↓pgNameN2, ↓pgNameN3, ↓pgNameN4, ↓ixS0, ↓ixS1, ↓ixS2, ↓ixS3, ↓ixS4, ↓lenS0, ↓lenS1, ↓lenS2, ↓lenS3, ↓lenS4, ↓setS0, ↓setS1, ↓setS2, ↓setS3, ↓setS4, ↓conS0, ↓conS1, ↓conS2, ↓conS3, ↓conS4, ↓putS0, ↓putS1, ↓putS2, ↓putS3, ↓putS4]
  refine ⟨a, _, rfl, by decide, by decide, d2.src, fun m W3 m1 m2 d3 => ?_⟩
  have dd := (d1.trans d2).trans d3
  try simp only [↓pC, ↓pOp, ↓pUn, ↓pSl, ↓pPart, ↓pNil, ↓pCons, ↓pTup, ↓pLst, ↓pCallB, ↓pTest, ↓pNot, ↓pAnd, ↓pOr, ↓pAndV, ↓pOrV, ↓pNotV, ↓pIf, ↓pNext, ↓pSeq, ↓pBreak, ↓pCont, ↓pDrop, ↓pRet, ↓pRetN, ↓pIfS, ↓pgNil, ↓pgCons, ↓pgTup, ↓pAsg, ↓pRaise, ↓pCall, ↓pIter, ↓pFor, ↓pLc, ↓pYes, ↓pkOf, ↓pIxK, ↓pTabG, ↓pLenK, ↓pChain, ↓pStore, ↓pAppend, ↓pPop, ↓poLst, ↓poDct, ↓pNewW, ↓pRng1, ↓pRng2, ↓pTry, ↓pTryAs, ↓oEq, ↓oNe, ↓oLen, ↓oSum, ↓oAll, ↓oAny, ↓oIsi, start0, List.map_cons, List.map_nil, List.length_cons, List.length_nil, List.cons_append, List.nil_append, List.getElem?_cons_zero, List.getElem?_cons_succ, List.set_cons_zero, List.set_cons_succ, List.replicate, D.bl.injEq, D.int.injEq, D.str.injEq, D.tup.injEq, D.lst.injEq, exists_eq_left', exists_eq_left, Option.some.injEq, Bool.false_eq_true, if_true, if_false, true_and, and_true, false_and, and_false, isi_int, isi_bool, isi_str, isi_tuple, isi_list, isiT_int, isiT_bool, isiT_str, isiT_tuple, isiT_list, Bool.not_true, Bool.not_false, dat_non, dat_bl, dat_int, dat_str, dat_tup, dat_lst, isInt_non, isInt_bl, isInt_int, isInt_str, isInt_tup, isInt_lst, isBool_non, isBool_bl, isBool_int, isBool_str, isBool_tup, isBool_lst, isStr_non, isStr_bl, isStr_int, isStr_str, isStr_tup, isStr_lst, isTup_non, isTup_bl, isTup_int, isTup_str, isTup_tup, isTup_lst, isLst_non, isLst_bl, isLst_int, isLst_str, isLst_tup, isLst_lst, Nat.reduceAdd, Nat.zero_add, sz_0, sz_1, sz_2, sz_3, sz_4, sz_5, sz_6, sz_7, sz_8, sz_9, sz_10, sz_11, sz_12, List.any_cons, List.any_nil, eqD_tup, eqD_str, eqD_int, eqDs_cons, eqDs_nil, eqDs_cn, eqDs_nc, Bool.or_false, Bool.and_true, at0, at1, at2, at3, at4, good_int, good_bl, good_nil, good_nilL, good_non, eqDs_nil_r, eqDs_nil_l, List.isEmpty_nil, List.isEmpty_cons, Bool.and_false, Bool.or_true, Bool.false_or, Bool.true_or, Bool.false_and, Bool.true_and, encB, wipS_mk, List.foldr_cons, List.foldr_nil, con_updW, ↓ixC_ownD, ↓oIx_tup, ↓oIx_lst, ↓oIx_str, ↓lenC_ownL, ↓lenC_ownD, ↓setC_ownD, putC_adr, Own_lst_inj, Con_own_inj, updW_upd, Nat.reduceSub, Nat.sub_self, ↓itD_lst, ↓itD_tup, ↓oInt_i, ↓oCmp_i, ↓oAdd_i, ↓oAdd_s, ↓oAdd_t, ↓oAdd_l, ↓oNeg_i, ↓o1I_i, ↓o2I_i, ↓oSl_t, ↓oSl_l, ↓oList_t, ↓oList_l, ↓oTuple_t, ↓oTuple_l, ↓oIn_t, ↓oIn_l, ↓oIsN_n, ↓ixC_ownLi, ↓setC_ownLi, ixN20, ixN21, ex_int1, ex_int2, ↓pSet_eq, ↓ixK_tup, ↓ixK_lst, ↓ixK_str, ↓ixK_dct, ↓lenK_tup, ↓lenK_lst, ↓lenK_str, ↓pSetO_eq, ↓pPar_eq, ↓kPar_mk, ↓pVarV0, ↓pVarV1, ↓pVarV2, ↓pVarV3, ↓pVarV4, ↓pVarL0, ↓pVarL1, ↓pVarL2, ↓pVarL3, ↓pVarL4, ↓pVarD0, ↓pVarD1, ↓pVarD2, ↓pVarD3, ↓pVarD4, ↓pkVarV0, ↓pkVarV1, ↓pkVarV2, ↓pkVarV3, ↓pkVarV4, ↓pkVarO0, ↓pkVarO1, ↓pkVarO2, ↓pkVarO3, ↓pkVarO4, ↓kSetN0, ↓kSetN1, ↓kSetN2, ↓kSetN3, ↓kSetN4, ↓kSetO_N0, ↓kSetO_N1, ↓kSetO_N2, ↓kSetO_N3, ↓kSetO_N4, ↓pgNameN0, ↓pgNameN1, ↓pgNameN2, ↓pgNameN3, ↓pgNameN4, ↓ixS0, ↓ixS1, ↓ixS2, ↓ixS3, ↓ixS4, ↓lenS0, ↓lenS1, ↓lenS2, ↓lenS3, ↓lenS4, ↓setS0, ↓setS1, ↓setS2, ↓setS3, ↓setS4, ↓conS0, ↓conS1, ↓conS2, ↓conS3, ↓conS4, ↓putS0, ↓putS1, ↓putS2, ↓putS3, ↓putS4]
  refine ite2 (fun _ => ⟨a, rfl, d3.src, fun b W4 hb hl d4 => ?_⟩) (fun _ => ⟨a, _, rfl, by decide, by decide, d3.src, fun b W4 hb hl d4 => ?_⟩)
  · have hb3 : okB 3 b = true := okB_mono hb (by decide)
    have dx := dd.trans d4
    refine ite2 (fun _ => ?_) (fun _ => ite2 (fun _ => ?_) (fun _ => ?_))
    · refine ⟨a, b, rfl, hb3, by omega, dx.src, fun b' W5 hb' d5 => ?_⟩
      have dy := dx.trans d5
      refine ⟨b', rfl, hb', ?_⟩
      try simp only [↓pC, ↓pOp, ↓pUn, ↓pSl, ↓pPart, ↓pNil, ↓pCons, ↓pTup, ↓pLst, ↓pCallB, ↓pTest, ↓pNot, ↓pAnd, ↓pOr, ↓pAndV, ↓pOrV, ↓pNotV, ↓pIf, ↓pNext, ↓pSeq, ↓pBreak, ↓pCont, ↓pDrop, ↓pRet, ↓pRetN, ↓pIfS, ↓pgNil, ↓pgCons, ↓pgTup, ↓pAsg, ↓pRaise, ↓pCall, ↓pIter, ↓pFor, ↓pLc, ↓pYes, ↓pkOf, ↓pIxK, ↓pTabG, ↓pLenK, ↓pChain, ↓pStore, ↓pAppend, ↓pPop, ↓poLst, ↓poDct, ↓pNewW, ↓pRng1, ↓pRng2, ↓pTry, ↓pTryAs, ↓oEq, ↓oNe, ↓oLen, ↓oSum, ↓oAll, ↓oAny, ↓oIsi, start0, List.map_cons, List.map_nil, List.length_cons, List.length_nil, List.cons_append, List.nil_append, List.getElem?_cons_zero, List.getElem?_cons_succ, List.set_cons_zero, List.set_cons_succ, List.replicate, D.bl.injEq, D.int.injEq, D.str.injEq, D.tup.injEq, D.lst.injEq, exists_eq_left', exists_eq_left, Option.some.injEq, Bool.false_eq_true, if_true, if_false, true_and, and_true, false_and, and_false, isi_int, isi_bool, isi_str, isi_tuple, isi_list, isiT_int, isiT_bool, isiT_str, isiT_tuple, isiT_list, Bool.not_true, Bool.not_false, dat_non, dat_bl, dat_int, dat_str, dat_tup, dat_lst, isInt_non, isInt_bl, isInt_int, isInt_str, isInt_tup, isInt_lst, isBool_non, isBool_bl, isBool_int, isBool_str, isBool_tup, isBool_lst, isStr_non, isStr_bl, isStr_int, isStr_str, isStr_tup, isStr_lst, isTup_non, isTup_bl, isTup_int, isTup_str, isTup_tup, isTup_lst, isLst_non, isLst_bl, isLst_int, isLst_str, isLst_tup, isLst_lst, Nat.reduceAdd, Nat.zero_add, sz_0, sz_1, sz_2, sz_3, sz_4, sz_5, sz_6, sz_7, sz_8, sz_9, sz_10, sz_11, sz_12, List.any_cons, List.any_nil, eqD_tup, eqD_str, eqD_int, eqDs_cons, eqDs_nil, eqDs_cn, eqDs_nc, Bool.or_false, Bool.and_true, at0, at1, at2, at3, at4, good_int, good_bl, good_nil, good_nilL, good_non, eqDs_nil_r, eqDs_nil_l, List.isEmpty_nil, List.isEmpty_cons, Bool.and_false, Bool.or_true, Bool.false_or, Bool.true_or, Bool.false_and, Bool.true_and, encB, wipS_mk, List.foldr_cons, List.foldr_nil, con_updW, ↓ixC_ownD, ↓oIx_tup, ↓oIx_lst, ↓oIx_str, ↓lenC_ownL, ↓lenC_ownD, ↓setC_ownD, putC_adr, Own_lst_inj, Con_own_inj, updW_upd, Nat.reduceSub, Nat.sub_self, ↓itD_lst, ↓itD_tup, ↓oInt_i, ↓oCmp_i, ↓oAdd_i, ↓oAdd_s, ↓oAdd_t, ↓oAdd_l, ↓oNeg_i, ↓o1I_i, ↓o2I_i, ↓oSl_t, ↓oSl_l, ↓oList_t, ↓oList_l, ↓oTuple_t, ↓oTuple_l, ↓oIn_t, ↓oIn_l, ↓oIsN_n, ↓ixC_ownLi, ↓setC_ownLi, ixN20, ixN21, ex_int1, ex_int2, ↓pSet_eq, ↓ixK_tup, ↓ixK_lst, ↓ixK_str, ↓ixK_dct, ↓lenK_tup, ↓lenK_lst, ↓lenK_str, ↓pSetO_eq, ↓pPar_eq, ↓kPar_mk, ↓pVarV0, ↓pVarV1, ↓pVarV2, ↓pVarV3, ↓pVarV4, ↓pVarL0, ↓pVarL1, ↓pVarL2, ↓pVarL3, ↓pVarL4, ↓pVarD0, ↓pVarD1, ↓pVarD2, ↓pVarD3, ↓pVarD4, ↓pkVarV0, ↓pkVarV1, ↓pkVarV2, ↓pkVarV3, ↓pkVarV4, ↓pkVarO0, ↓pkVarO1, ↓pkVarO2, ↓pkVarO3, ↓pkVarO4, ↓kSetN0, ↓kSetN1, ↓kSetN2, ↓kSetN3, ↓kSetN4, ↓kSetO_N0, ↓kSetO_N1, ↓kSetO_N2, ↓kSetO_N3, ↓kSetO_N4, ↓pgNameN0, ↓pgNameN1, ↓pgNameN2, ↓pgNameN3, ↓pgNameN4, ↓ixS0, ↓ixS1, ↓ixS2, ↓ixS3, ↓ixS4, ↓lenS0, ↓lenS1, ↓lenS2, ↓lenS3, ↓lenS4, ↓setS0, ↓setS1, ↓setS2, ↓setS3, ↓setS4, ↓conS0, ↓conS1, ↓conS2, ↓conS3, ↓conS4, ↓putS0, ↓putS1, ↓putS2, ↓putS3, ↓putS4]
      refine ite2 (fun _ => ⟨a, _, rfl, by decide, by decide, dy.src, fun f W9 f1 f2 d9 => ?_⟩) (fun z => ⟨a, _, rfl, by decide, by decide, dy.src, fun f W9 f1 f2 d9 => ?_⟩)
      · exact q ⟨n, n + m, f, [.until, .move 3]⟩ W9 ⟨okL_iff.mpr ⟨⟨by omega, by show n ≤ n + m; omega, by show n + m ≤ 8; omega, f1, by show f ≤ 8; omega⟩, rfl, by show 2 ≤ 12; decide⟩, by show n ≤ 2; omega, by show n + m ≤ n + 3; omega, by show f ≤ 5; omega⟩ (dy.trans d9)
      · have z : (listedB b').length ≤ 12 := by simp only [decide_eq_true_eq] at z; omega
        exact q ⟨n, n + m, f, b'⟩ W9 ⟨okL_iff.mpr ⟨⟨by omega, by show n ≤ n + m; omega, by show n + m ≤ 8; omega, f1, by show f ≤ 8; omega⟩, hb', z⟩, by show n ≤ 2; omega, by show n + m ≤ n + 3; omega, by show f ≤ 5; omega⟩ (dy.trans d9)
    · refine ⟨a, b, rfl, hb3, by omega, dx.src, fun b' W5 hb' d5 => ?_⟩
      have dy := dx.trans d5
      refine ⟨b', rfl, hb', ?_⟩
      try simp only [↓pC, ↓pOp, ↓pUn, ↓pSl, ↓pPart, ↓pNil, ↓pCons, ↓pTup, ↓pLst, ↓pCallB, ↓pTest, ↓pNot, ↓pAnd, ↓pOr, ↓pAndV, ↓pOrV, ↓pNotV, ↓pIf, ↓pNext, ↓pSeq, ↓pBreak, ↓pCont, ↓pDrop, ↓pRet, ↓pRetN, ↓pIfS, ↓pgNil, ↓pgCons, ↓pgTup, ↓pAsg, ↓pRaise, ↓pCall, ↓pIter, ↓pFor, ↓pLc, ↓pYes, ↓pkOf, ↓pIxK, ↓pTabG, ↓pLenK, ↓pChain, ↓pStore, ↓pAppend, ↓pPop, ↓poLst, ↓poDct, ↓pNewW, ↓pRng1, ↓pRng2, ↓pTry, ↓pTryAs, ↓oEq, ↓oNe, ↓oLen, ↓oSum, ↓oAll, ↓oAny, ↓oIsi, start0, List.map_cons, List.map_nil, List.length_cons, List.length_nil, List.cons_append, List.nil_append, List.getElem?_cons_zero, List.getElem?_cons_succ, List.set_cons_zero, List.set_cons_succ, List.replicate, D.bl.injEq, D.int.injEq, D.str.injEq, D.tup.injEq, D.lst.injEq, exists_eq_left', exists_eq_left, Option.some.injEq, Bool.false_eq_true, if_true, if_false, true_and, and_true, false_and, and_false, isi_int, isi_bool, isi_str, isi_tuple, isi_list, isiT_int, isiT_bool, isiT_str, isiT_tuple, isiT_list, Bool.not_true, Bool.not_false, dat_non, dat_bl, dat_int, dat_str, dat_tup, dat_lst, isInt_non, isInt_bl, isInt_int, isInt_str, isInt_tup, isInt_lst, isBool_non, isBool_bl, isBool_int, isBool_str, isBool_tup, isBool_lst, isStr_non, isStr_bl, isStr_int, isStr_str, isStr_tup, isStr_lst, isTup_non, isTup_bl, isTup_int, isTup_str, isTup_tup, isTup_lst, isLst_non, isLst_bl, isLst_int, isLst_str, isLst_tup, isLst_lst, Nat.reduceAdd, Nat.zero_add, sz_0, sz_1, sz_2, sz_3, sz_4, sz_5, sz_6, sz_7, sz_8, sz_9, sz_10, sz_11, sz_12, List.any_cons, List.any_nil, eqD_tup, eqD_str, eqD_int, eqDs_cons, eqDs_nil, eqDs_cn, eqDs_nc, Bool.or_false, Bool.and_true, at0, at1, at2, at3, at4, good_int, good_bl, good_nil, good_nilL, good_non, eqDs_nil_r, eqDs_nil_l, List.isEmpty_nil, List.isEmpty_cons, Bool.and_false, Bool.or_true, Bool.false_or, Bool.true_or, Bool.false_and, Bool.true_and, encB, wipS_mk, List.foldr_cons, List.foldr_nil, con_updW, ↓ixC_ownD, ↓oIx_tup, ↓oIx_lst, ↓oIx_str, ↓lenC_ownL, ↓lenC_ownD, ↓setC_ownD, putC_adr, Own_lst_inj, Con_own_inj, updW_upd, Nat.reduceSub, Nat.sub_self, ↓itD_lst, ↓itD_tup, ↓oInt_i, ↓oCmp_i, ↓oAdd_i, ↓oAdd_s, ↓oAdd_t, ↓oAdd_l, ↓oNeg_i, ↓o1I_i, ↓o2I_i, ↓oSl_t, ↓oSl_l, ↓oList_t, ↓oList_l, ↓oTuple_t, ↓oTuple_l, ↓oIn_t, ↓oIn_l, ↓oIsN_n, ↓ixC_ownLi, ↓setC_ownLi, ixN20, ixN21, ex_int1, ex_int2, ↓pSet_eq, ↓ixK_tup, ↓ixK_lst, ↓ixK_str, ↓ixK_dct, ↓lenK_tup, ↓lenK_lst, ↓lenK_str, ↓pSetO_eq, ↓pPar_eq, ↓kPar_mk, ↓pVarV0, ↓pVarV1, ↓pVarV2, ↓pVarV3, ↓pVarV4, ↓pVarL0, ↓pVarL1, ↓pVarL2, ↓pVarL3, ↓pVarL4, ↓pVarD0, ↓pVarD1, ↓pVarD2, ↓pVarD3, ↓pVarD4, ↓pkVarV0, ↓pkVarV1, ↓pkVarV2, ↓pkVarV3, ↓pkVarV4, ↓pkVarO0, ↓pkVarO1, ↓pkVarO2, ↓pkVarO3, ↓pkVarO4, ↓kSetN0, ↓kSetN1, ↓kSetN2, ↓kSetN3, ↓kSetN4, ↓kSetO_N0, ↓kSetO_N1, ↓kSetO_N2, ↓kSetO_N3, ↓kSetO_N4, ↓pgNameN0, ↓pgNameN1, ↓pgNameN2, ↓pgNameN3, ↓pgNameN4, ↓ixS0, ↓ixS1, ↓ixS2, ↓ixS3, ↓ixS4, ↓lenS0, ↓lenS1, ↓lenS2, ↓lenS3, ↓lenS4, ↓setS0, ↓setS1, ↓setS2, ↓setS3, ↓setS4, ↓conS0, ↓conS1, ↓conS2, ↓conS3, ↓conS4, ↓putS0, ↓putS1, ↓putS2, ↓putS3, ↓putS4]
      refine ite2 (fun _ => ⟨a, _, rfl, by decide, by decide, dy.src, fun f W9 f1 f2 d9 => ?_⟩) (fun z => ⟨a, _, rfl, by decide, by decide, dy.src, fun f W9 f1 f2 d9 => ?_⟩)
      · exact q ⟨n, n + m, f, [.until, .move 3]⟩ W9 ⟨okL_iff.mpr ⟨⟨by omega, by show n ≤ n + m; omega, by show n + m ≤ 8; omega, f1, by show f ≤ 8; omega⟩, rfl, by show 2 ≤ 12; decide⟩, by show n ≤ 2; omega, by show n + m ≤ n + 3; omega, by show f ≤ 5; omega⟩ (dy.trans d9)
      · have z : (listedB b').length ≤ 12 := by simp only [decide_eq_true_eq] at z; omega
        exact q ⟨n, n + m, f, b'⟩ W9 ⟨okL_iff.mpr ⟨⟨by omega, by show n ≤ n + m; omega, by show n + m ≤ 8; omega, f1, by show f ≤ 8; omega⟩, hb', z⟩, by show n ≤ 2; omega, by show n + m ≤ n + 3; omega, by show f ≤ 5; omega⟩ (dy.trans d9)
    · refine ⟨b, rfl, hb3, ?_⟩
      try simp only [↓pC, ↓pOp, ↓pUn, ↓pSl, ↓pPart, ↓pNil, ↓pCons, ↓pTup, ↓pLst, ↓pCallB, ↓pTest, ↓pNot, ↓pAnd, ↓pOr, ↓pAndV, ↓pOrV, ↓pNotV, ↓pIf, ↓pNext, ↓pSeq, ↓pBreak, ↓pCont, ↓pDrop, ↓pRet, ↓pRetN, ↓pIfS, ↓pgNil, ↓pgCons, ↓pgTup, ↓pAsg, ↓pRaise, ↓pCall, ↓pIter, ↓pFor, ↓pLc, ↓pYes, ↓pkOf, ↓pIxK, ↓pTabG, ↓pLenK, ↓pChain, ↓pStore, ↓pAppend, ↓pPop, ↓poLst, ↓poDct, ↓pNewW, ↓pRng1, ↓pRng2, ↓pTry, ↓pTryAs, ↓oEq, ↓oNe, ↓oLen, ↓oSum, ↓oAll, ↓oAny, ↓oIsi, start0, List.map_cons, List.map_nil, List.length_cons, List.length_nil, List.cons_append, List.nil_append, List.getElem?_cons_zero, List.getElem?_cons_succ, List.set_cons_zero, List.set_cons_succ, List.replicate, D.bl.injEq, D.int.injEq, D.str.injEq, D.tup.injEq, D.lst.injEq, exists_eq_left', exists_eq_left, Option.some.injEq, Bool.false_eq_true, if_true, if_false, true_and, and_true, false_and, and_false, isi_int, isi_bool, isi_str, isi_tuple, isi_list, isiT_int, isiT_bool, isiT_str, isiT_tuple, isiT_list, Bool.not_true, Bool.not_false, dat_non, dat_bl, dat_int, dat_str, dat_tup, dat_lst, isInt_non, isInt_bl, isInt_int, isInt_str, isInt_tup, isInt_lst, isBool_non, isBool_bl, isBool_int, isBool_str, isBool_tup, isBool_lst, isStr_non, isStr_bl, isStr_int, isStr_str, isStr_tup, isStr_lst, isTup_non, isTup_bl, isTup_int, isTup_str, isTup_tup, isTup_lst, isLst_non, isLst_bl, isLst_int, isLst_str, isLst_tup, isLst_lst, Nat.reduceAdd, Nat.zero_add, sz_0, sz_1, sz_2, sz_3, sz_4, sz_5, sz_6, sz_7, sz_8, sz_9, sz_10, sz_11, sz_12, List.any_cons, List.any_nil, eqD_tup, eqD_str, eqD_int, eqDs_cons, eqDs_nil, eqDs_cn, eqDs_nc, Bool.or_false, Bool.and_true, at0, at1, at2, at3, at4, good_int, good_bl, good_nil, good_nilL, good_non, eqDs_nil_r, eqDs_nil_l, List.isEmpty_nil, List.isEmpty_cons, Bool.and_false, Bool.or_true, Bool.false_or, Bool.true_or, Bool.false_and, Bool.true_and, encB, wipS_mk, List.foldr_cons, List.foldr_nil, con_updW, ↓ixC_ownD, ↓oIx_tup, ↓oIx_lst, ↓oIx_str, ↓lenC_ownL, ↓lenC_ownD, ↓setC_ownD, putC_adr, Own_lst_inj, Con_own_inj, updW_upd, Nat.reduceSub, Nat.sub_self, ↓itD_lst, ↓itD_tup, ↓oInt_i, ↓oCmp_i, ↓oAdd_i, ↓oAdd_s, ↓oAdd_t, ↓oAdd_l, ↓oNeg_i, ↓o1I_i, ↓o2I_i, ↓oSl_t, ↓oSl_l, ↓oList_t, ↓oList_l, ↓oTuple_t, ↓oTuple_l, ↓oIn_t, ↓oIn_l, ↓oIsN_n, ↓ixC_ownLi, ↓setC_ownLi, ixN20, ixN21, ex_int1, ex_int2, ↓pSet_eq, ↓ixK_tup, ↓ixK_lst, ↓ixK_str, ↓ixK_dct, ↓lenK_tup, ↓lenK_lst, ↓lenK_str, ↓pSetO_eq, ↓pPar_eq, ↓kPar_mk, ↓pVarV0, ↓pVarV1, ↓pVarV2, ↓pVarV3, ↓pVarV4, ↓pVarL0, ↓pVarL1, ↓pVarL2, ↓pVarL3, ↓pVarL4, ↓pVarD0, ↓pVarD1, ↓pVarD2, ↓pVarD3, ↓pVarD4, ↓pkVarV0, ↓pkVarV1, ↓pkVarV2, ↓pkVarV3, ↓pkVarV4, ↓pkVarO0, ↓pkVarO1, ↓pkVarO2, ↓pkVarO3, ↓pkVarO4, ↓kSetN0, ↓kSetN1, ↓kSetN2, ↓kSetN3, ↓kSetN4, ↓kSetO_N0, ↓kSetO_N1, ↓kSetO_N2, ↓kSetO_N3, ↓kSetO_N4, ↓pgNameN0, ↓pgNameN1, ↓pgNameN2, ↓pgNameN3, ↓pgNameN4, ↓ixS0, ↓ixS1, ↓ixS2, ↓ixS3, ↓ixS4, ↓lenS0, ↓lenS1, ↓lenS2, ↓lenS3, ↓lenS4, ↓setS0, ↓setS1, ↓setS2, ↓setS3, ↓setS4, ↓conS0, ↓conS1, ↓conS2, ↓conS3, ↓conS4, ↓putS0, ↓putS1, ↓putS2, ↓putS3, ↓putS4]
      refine ite2 (fun _ => ⟨a, _, rfl, by decide, by decide, dx.src, fun f W9 f1 f2 d9 => ?_⟩) (fun z => ⟨a, _, rfl, by decide, by decide, dx.src, fun f W9 f1 f2 d9 => ?_⟩)
      · exact q ⟨n, n + m, f, [.until, .move 3]⟩ W9 ⟨okL_iff.mpr ⟨⟨by omega, by show n ≤ n + m; omega, by show n + m ≤ 8; omega, f1, by show f ≤ 8; omega⟩, rfl, by show 2 ≤ 12; decide⟩, by show n ≤ 2; omega, by show n + m ≤ n + 3; omega, by show f ≤ 5; omega⟩ (dx.trans d9)
      · have z : (listedB b).length ≤ 12 := by simp only [decide_eq_true_eq] at z; omega
        exact q ⟨n, n + m, f, b⟩ W9 ⟨okL_iff.mpr ⟨⟨by omega, by show n ≤ n + m; omega, by show n + m ≤ 8; omega, f1, by show f ≤ 8; omega⟩, hb3, z⟩, by show n ≤ 2; omega, by show n + m ≤ n + 3; omega, by show f ≤ 5; omega⟩ (dx.trans d9)
  · have hb3 : okB 3 b = true := hb
    have dx := dd.trans d4
    refine ite2 (fun _ => ?_) (fun _ => ite2 (fun _ => ?_) (fun _ => ?_))
    · refine ⟨a, b, rfl, hb3, by omega, dx.src, fun b' W5 hb' d5 => ?_⟩
      have dy := dx.trans d5
      refine ⟨b', rfl, hb', ?_⟩
      try simp only [↓pC, ↓pOp, ↓pUn, ↓pSl, ↓pPart, ↓pNil, ↓pCons, ↓pTup, ↓pLst, ↓pCallB, ↓pTest, ↓pNot, ↓pAnd, ↓pOr, ↓pAndV, ↓pOrV, ↓pNotV, ↓pIf, ↓pNext, ↓pSeq, ↓pBreak, ↓pCont, ↓pDrop, ↓pRet, ↓pRetN, ↓pIfS, ↓pgNil, ↓pgCons, ↓pgTup, ↓pAsg, ↓pRaise, ↓pCall, ↓pIter, ↓pFor, ↓pLc, ↓pYes, ↓pkOf, ↓pIxK, ↓pTabG, ↓pLenK, ↓pChain, ↓pStore, ↓pAppend, ↓pPop, ↓poLst, ↓poDct, ↓pNewW, ↓pRng1, ↓pRng2, ↓pTry, ↓pTryAs, ↓oEq, ↓oNe, ↓oLen, ↓oSum, ↓oAll, ↓oAny, ↓oIsi, start0, List.map_cons, List.map_nil, List.length_cons, List.length_nil, List.cons_append, List.nil_append, List.getElem?_cons_zero, List.getElem?_cons_succ, List.set_cons_zero, List.set_cons_succ, List.replicate, D.bl.injEq, D.int.injEq, D.str.injEq, D.tup.injEq, D.lst.injEq, exists_eq_left', exists_eq_left, Option.some.injEq, Bool.false_eq_true, if_true, if_false, true_and, and_true, false_and, and_false, isi_int, isi_bool, isi_str, isi_tuple, isi_list, isiT_int, isiT_bool, isiT_str, isiT_tuple, isiT_list, Bool.not_true, Bool.not_false, dat_non, dat_bl, dat_int, dat_str, dat_tup, dat_lst, isInt_non, isInt_bl, isInt_int, isInt_str, isInt_tup, isInt_lst, isBool_non, isBool_bl, isBool_int, isBool_str, isBool_tup, isBool_lst, isStr_non, isStr_bl, isStr_int, isStr_str, isStr_tup, isStr_lst, isTup_non, isTup_bl, isTup_int, isTup_str, isTup_tup, isTup_lst, isLst_non, isLst_bl, isLst_int, isLst_str, isLst_tup, isLst_lst, Nat.reduceAdd, Nat.zero_add, sz_0, sz_1, sz_2, sz_3, sz_4, sz_5, sz_6, sz_7, sz_8, sz_9, sz_10, sz_11, sz_12, List.any_cons, List.any_nil, eqD_tup, eqD_str, eqD_int, eqDs_cons, eqDs_nil, eqDs_cn, eqDs_nc, Bool.or_false, Bool.and_true, at0, at1, at2, at3, at4, good_int, good_bl, good_nil, good_nilL, good_non, eqDs_nil_r, eqDs_nil_l, List.isEmpty_nil, List.isEmpty_cons, Bool.and_false, Bool.or_true, Bool.false_or, Bool.true_or, Bool.false_and, Bool.true_and, encB, wipS_mk, List.foldr_cons, List.foldr_nil, con_updW, ↓ixC_ownD, ↓oIx_tup, ↓oIx_lst, ↓oIx_str, ↓lenC_ownL, ↓lenC_ownD, ↓setC_ownD, putC_adr, Own_lst_inj, Con_own_inj, updW_upd, Nat.reduceSub, Nat.sub_self, ↓itD_lst, ↓itD_tup, ↓oInt_i, ↓oCmp_i, ↓oAdd_i, ↓oAdd_s, ↓oAdd_t, ↓oAdd_l, ↓oNeg_i, ↓o1I_i, ↓o2I_i, ↓oSl_t, ↓oSl_l, ↓oList_t, ↓oList_l, ↓oTuple_t, ↓oTuple_l, ↓oIn_t, ↓oIn_l, ↓oIsN_n, ↓ixC_ownLi, ↓setC_ownLi, ixN20, ixN21, ex_int1, ex_int2, ↓pSet_eq, ↓ixK_tup, ↓ixK_lst, ↓ixK_str, ↓ixK_dct, ↓lenK_tup, ↓lenK_lst, ↓lenK_str, ↓pSetO_eq, ↓pPar_eq, ↓kPar_mk, ↓pVarV0, ↓pVarV1, ↓pVarV2, ↓pVarV3, ↓pVarV4, ↓pVarL0, ↓pVarL1, ↓pVarL2, ↓pVarL3, ↓pVarL4, ↓pVarD0, ↓pVarD1, ↓pVarD2, ↓pVarD3, ↓pVarD4, ↓pkVarV0, ↓pkVarV1, ↓pkVarV2, ↓pkVarV3, ↓pkVarV4, ↓pkVarO0, ↓pkVarO1, ↓pkVarO2, ↓pkVarO3, ↓pkVarO4, ↓kSetN0, ↓kSetN1, ↓kSetN2, ↓kSetN3, ↓kSetN4, ↓kSetO_N0, ↓kSetO_N1, ↓kSetO_N2, ↓kSetO_N3, ↓kSetO_N4, ↓pgNameN0, ↓pgNameN1, ↓pgNameN2, ↓pgNameN3, ↓pgNameN4, ↓ixS0, ↓ixS1, ↓ixS2, ↓ixS3, ↓ixS4, ↓lenS0, ↓lenS1, ↓lenS2, ↓lenS3, ↓lenS4, ↓setS0, ↓setS1, ↓setS2, ↓setS3, ↓setS4, ↓conS0, ↓conS1, ↓conS2, ↓conS3, ↓conS4, ↓putS0, ↓putS1, ↓putS2, ↓putS3, ↓putS4]
      refine ite2 (fun _ => ⟨a, _, rfl, by decide, by decide, dy.src, fun f W9 f1 f2 d9 => ?_⟩) (fun z => ⟨a, _, rfl, by decide, by decide, dy.src, fun f W9 f1 f2 d9 => ?_⟩)
      · exact q ⟨n, n + m, f, [.until, .move 3]⟩ W9 ⟨okL_iff.mpr ⟨⟨by omega, by show n ≤ n + m; omega, by show n + m ≤ 8; omega, f1, by show f ≤ 8; omega⟩, rfl, by show 2 ≤ 12; decide⟩, by show n ≤ 2; omega, by show n + m ≤ n + 3; omega, by show f ≤ 5; omega⟩ (dy.trans d9)
      · have z : (listedB b').length ≤ 12 := by simp only [decide_eq_true_eq] at z; omega
        exact q ⟨n, n + m, f, b'⟩ W9 ⟨okL_iff.mpr ⟨⟨by omega, by show n ≤ n + m; omega, by show n + m ≤ 8; omega, f1, by show f ≤ 8; omega⟩, hb', z⟩, by show n ≤ 2; omega, by show n + m ≤ n + 3; omega, by show f ≤ 5; omega⟩ (dy.trans d9)
    · refine ⟨a, b, rfl, hb3, by omega, dx.src, fun b' W5 hb' d5 => ?_⟩
      have dy := dx.trans d5
      refine ⟨b', rfl, hb', ?_⟩
      try simp only [↓pC, ↓pOp, ↓pUn, ↓pSl, ↓pPart, ↓pNil, ↓pCons, ↓pTup, ↓pLst, ↓pCallB, ↓pTest, ↓pNot, ↓pAnd, ↓pOr, ↓pAndV, ↓pOrV, ↓pNotV, ↓pIf, ↓pNext, ↓pSeq, ↓pBreak, ↓pCont, ↓pDrop, ↓pRet, ↓pRetN, ↓pIfS, ↓pgNil, ↓pgCons, ↓pgTup, ↓pAsg, ↓pRaise, ↓pCall, ↓pIter, ↓pFor, ↓pLc, ↓pYes, ↓pkOf, ↓pIxK, ↓pTabG, ↓pLenK, ↓pChain, ↓pStore, ↓pAppend, ↓pPop, ↓poLst, ↓poDct, ↓pNewW, ↓pRng1, ↓pRng2, ↓pTry, ↓pTryAs, ↓oEq, ↓oNe, ↓oLen, ↓oSum, ↓oAll, ↓oAny, ↓oIsi, start0, List.map_cons, List.map_nil, List.length_cons, List.length_nil, List.cons_append, List.nil_append, List.getElem?_cons_zero, List.getElem?_cons_succ, List.set_cons_zero, List.set_cons_succ, List.replicate, D.bl.injEq, D.int.injEq, D.str.injEq, D.tup.injEq, D.lst.injEq, exists_eq_left', exists_eq_left, Option.some.injEq, Bool.false_eq_true, if_true, if_false, true_and, and_true, false_and, and_false, isi_int, isi_bool, isi_str, isi_tuple, isi_list, isiT_int, isiT_bool, isiT_str, isiT_tuple, isiT_list, Bool.not_true, Bool.not_false, dat_non, dat_bl, dat_int, dat_str, dat_tup, dat_lst, isInt_non, isInt_bl, isInt_int, isInt_str, isInt_tup, isInt_lst, isBool_non, isBool_bl, isBool_int, isBool_str, isBool_tup, isBool_lst, isStr_non, isStr_bl, isStr_int, isStr_str, isStr_tup, isStr_lst, isTup_non, isTup_bl, isTup_int, isTup_str, isTup_tup, isTup_lst, isLst_non, isLst_bl, isLst_int, isLst_str, isLst_tup, isLst_lst, Nat.reduceAdd, Nat.zero_add, sz_0, sz_1, sz_2, sz_3, sz_4, sz_5, sz_6, sz_7, sz_8, sz_9, sz_10, sz_11, sz_12, List.any_cons, List.any_nil, eqD_tup, eqD_str, eqD_int, eqDs_cons, eqDs_nil, eqDs_cn, eqDs_nc, Bool.or_false, Bool.and_true, at0, at1, at2, at3, at4, good_int, good_bl, good_nil, good_nilL, good_non, eqDs_nil_r, eqDs_nil_l, List.isEmpty_nil, List.isEmpty_cons, Bool.and_false, Bool.or_true, Bool.false_or, Bool.true_or, Bool.false_and, Bool.true_and, encB, wipS_mk, List.foldr_cons, List.foldr_nil, con_updW, ↓ixC_ownD, ↓oIx_tup, ↓oIx_lst, ↓oIx_str, ↓lenC_ownL, ↓lenC_ownD, ↓setC_ownD, putC_adr, Own_lst_inj, Con_own_inj, updW_upd, Nat.reduceSub, Nat.sub_self, ↓itD_lst, ↓itD_tup, ↓oInt_i, ↓oCmp_i, ↓oAdd_i, ↓oAdd_s, ↓oAdd_t, ↓oAdd_l, ↓oNeg_i, ↓o1I_i, ↓o2I_i, ↓oSl_t, ↓oSl_l, ↓oList_t, ↓oList_l, ↓oTuple_t, ↓oTuple_l, ↓oIn_t, ↓oIn_l, ↓oIsN_n, ↓ixC_ownLi, ↓setC_ownLi, ixN20, ixN21, ex_int1, ex_int2, ↓pSet_eq, ↓ixK_tup, ↓ixK_lst, ↓ixK_str, ↓ixK_dct, ↓lenK_tup, ↓lenK_lst, ↓lenK_str, ↓pSetO_eq, ↓pPar_eq, ↓kPar_mk, ↓pVarV0, ↓pVarV1, ↓pVarV2, ↓pVarV3, ↓pVarV4, ↓pVarL0, ↓pVarL1, ↓pVarL2, ↓pVarL3, ↓pVarL4, ↓pVarD0, ↓pVarD1, ↓pVarD2, ↓pVarD3, ↓pVarD4, ↓pkVarV0, ↓pkVarV1, ↓pkVarV2, ↓pkVarV3, ↓pkVarV4, ↓pkVarO0, ↓pkVarO1, ↓pkVarO2, ↓pkVarO3, ↓pkVarO4, ↓kSetN0, ↓kSetN1, ↓kSetN2, ↓kSetN3, ↓kSetN4, ↓kSetO_N0, ↓kSetO_N1, ↓kSetO_N2, ↓kSetO_N3, ↓kSetO_N4, ↓pgNameN0, ↓pgNameN1, ↓pgNameN2, ↓pgNameN3, ↓pgNameN4, ↓ixS0, ↓ixS1, ↓ixS2, ↓ixS3, ↓ixS4, ↓lenS0, ↓lenS1, ↓lenS2, ↓lenS3, ↓lenS4, ↓setS0, ↓setS1, ↓setS2, ↓setS3, ↓setS4, ↓conS0, ↓conS1, ↓conS2, ↓conS3, ↓conS4, ↓putS0, ↓putS1, ↓putS2, ↓putS3, ↓putS4]
      refine ite2 (fun _ => ⟨a, _, rfl, by decide, by decide, dy.src, fun f W9 f1 f2 d9 => ?_⟩) (fun z => ⟨a, _, rfl, by decide, by decide, dy.src, fun f W9 f1 f2 d9 => ?_⟩)
      · exact q ⟨n, n + m, f, [.until, .move 3]⟩ W9 ⟨okL_iff.mpr ⟨⟨by omega, by show n ≤ n + m; omega, by show n + m ≤ 8; omega, f1, by show f ≤ 8; omega⟩, rfl, by show 2 ≤ 12; decide⟩, by show n ≤ 2; omega, by show n + m ≤ n + 3; omega, by show f ≤ 5; omega⟩ (dy.trans d9)
      · have z : (listedB b').length ≤ 12 := by simp only [decide_eq_true_eq] at z; omega
        exact q ⟨n, n + m, f, b'⟩ W9 ⟨okL_iff.mpr ⟨⟨by omega, by show n ≤ n + m; omega, by show n + m ≤ 8; omega, f1, by show f ≤ 8; omega⟩, hb', z⟩, by show n ≤ 2; omega, by show n + m ≤ n + 3; omega, by show f ≤ 5; omega⟩ (dy.trans d9)
    · refine ⟨b, rfl, hb3, ?_⟩
      try simp only [↓pC, ↓pOp, ↓pUn, ↓pSl, ↓pPart, ↓pNil, ↓pCons, ↓pTup, ↓pLst, ↓pCallB, ↓pTest, ↓pNot, ↓pAnd, ↓pOr, ↓pAndV, ↓pOrV, ↓pNotV, ↓pIf, ↓pNext, ↓pSeq, ↓pBreak, ↓pCont, ↓pDrop, ↓pRet, ↓pRetN, ↓pIfS, ↓pgNil, ↓pgCons, ↓pgTup, ↓pAsg, ↓pRaise, ↓pCall, ↓pIter, ↓pFor, ↓pLc, ↓pYes, ↓pkOf, ↓pIxK, ↓pTabG, ↓pLenK, ↓pChain, ↓pStore, ↓pAppend, ↓pPop, ↓poLst, ↓poDct, ↓pNewW, ↓pRng1, ↓pRng2, ↓pTry, ↓pTryAs, ↓oEq, ↓oNe, ↓oLen, ↓oSum, ↓oAll, ↓oAny, ↓oIsi, start0, List.map_cons, List.map_nil, List.length_cons, List.length_nil, List.cons_append, List.nil_append, List.getElem?_cons_zero, List.getElem?_cons_succ, List.set_cons_zero, List.set_cons_succ, List.replicate, D.bl.injEq, D.int.injEq, D.str.injEq, D.tup.injEq, D.lst.injEq, exists_eq_left', exists_eq_left, Option.some.injEq, Bool.false_eq_true, if_true, if_false, true_and, and_true, false_and, and_false, isi_int, isi_bool, isi_str, isi_tuple, isi_list, isiT_int, isiT_bool, isiT_str, isiT_tuple, isiT_list, Bool.not_true, Bool.not_false, dat_non, dat_bl, dat_int, dat_str, dat_tup, dat_lst, isInt_non, isInt_bl, isInt_int, isInt_str, isInt_tup, isInt_lst, isBool_non, isBool_bl, isBool_int, isBool_str, isBool_tup, isBool_lst, isStr_non, isStr_bl, isStr_int, isStr_str, isStr_tup, isStr_lst, isTup_non, isTup_bl, isTup_int, isTup_str, isTup_tup, isTup_lst, isLst_non, isLst_bl, isLst_int, isLst_str, isLst_tup, isLst_lst, Nat.reduceAdd, Nat.zero_add, sz_0, sz_1, sz_2, sz_3, sz_4, sz_5, sz_6, sz_7, sz_8, sz_9, sz_10, sz_11, sz_12, List.any_cons, List.any_nil, eqD_tup, eqD_str, eqD_int, eqDs_cons, eqDs_nil, eqDs_cn, eqDs_nc, Bool.or_false, Bool.and_true, at0, at1, at2, at3, at4, good_int, good_bl, good_nil, good_nilL, good_non, eqDs_nil_r, eqDs_nil_l, List.isEmpty_nil, List.isEmpty_cons, Bool.and_false, Bool.or_true, Bool.false_or, Bool.true_or, Bool.false_and, Bool.true_and, encB, wipS_mk, List.foldr_cons, List.foldr_nil, con_updW, ↓ixC_ownD, ↓oIx_tup, ↓oIx_lst, ↓oIx_str, ↓lenC_ownL, ↓lenC_ownD, ↓setC_ownD, putC_adr, Own_lst_inj, Con_own_inj, updW_upd, Nat.reduceSub, Nat.sub_self, ↓itD_lst, ↓itD_tup, ↓oInt_i, ↓oCmp_i, ↓oAdd_i, ↓oAdd_s, ↓oAdd_t, ↓oAdd_l, ↓oNeg_i, ↓o1I_i, ↓o2I_i, ↓oSl_t, ↓oSl_l, ↓oList_t, ↓oList_l, ↓oTuple_t, ↓oTuple_l, ↓oIn_t, ↓oIn_l, ↓oIsN_n, ↓ixC_ownLi, ↓setC_ownLi, ixN20, ixN21, ex_int1, ex_int2, ↓pSet_eq, ↓ixK_tup, ↓ixK_lst, ↓ixK_str, ↓ixK_dct, ↓lenK_tup, ↓lenK_lst, ↓lenK_str, ↓pSetO_eq, ↓pPar_eq, ↓kPar_mk, ↓pVarV0, ↓pVarV1, ↓pVarV2, ↓pVarV3, ↓pVarV4, ↓pVarL0, ↓pVarL1, ↓pVarL2, ↓pVarL3, ↓pVarL4, ↓pVarD0, ↓pVarD1, ↓pVarD2, ↓pVarD3, ↓pVarD4, ↓pkVarV0, ↓pkVarV1, ↓pkVarV2, ↓pkVarV3, ↓pkVarV4, ↓pkVarO0, ↓pkVarO1, ↓pkVarO2, ↓pkVarO3, ↓pkVarO4, ↓kSetN0, ↓kSetN1, ↓kSetN2, ↓kSetN3, ↓kSetN4, ↓kSetO_N0, ↓kSetO_N1, ↓kSetO_N2, ↓kSetO_N3, ↓kSetO_N4, ↓pgNameN0, ↓pgNameN1, ↓pgNameN2, ↓pgNameN3, ↓pgNameN4, ↓ixS0, ↓ixS1, ↓ixS2, ↓ixS3, ↓ixS4, ↓lenS0, ↓lenS1, ↓lenS2, ↓lenS3, ↓lenS4, ↓setS0, ↓setS1, ↓setS2, ↓setS3, ↓setS4, ↓conS0, ↓conS1, ↓conS2, ↓conS3, ↓conS4, ↓putS0, ↓putS1, ↓putS2, ↓putS3, ↓putS4]
      refine ite2 (fun _ => ⟨a, _, rfl, by decide, by decide, dx.src, fun f W9 f1 f2 d9 => ?_⟩) (fun z => ⟨a, _, rfl, by decide, by decide, dx.src, fun f W9 f1 f2 d9 => ?_⟩)
      · exact q ⟨n, n + m, f, [.until, .move 3]⟩ W9 ⟨okL_iff.mpr ⟨⟨by omega, by show n ≤ n + m; omega, by show n + m ≤ 8; omega, f1, by show f ≤ 8; omega⟩, rfl, by show 2 ≤ 12; decide⟩, by show n ≤ 2; omega, by show n + m ≤ n + 3; omega, by show f ≤ 5; omega⟩ (dx.trans d9)
      · have z : (listedB b).length ≤ 12 := by simp only [decide_eq_true_eq] at z; omega
        exact q ⟨n, n + m, f, b⟩ W9 ⟨okL_iff.mpr ⟨⟨by omega, by show n ≤ n + m; omega, by show n + m ≤ 8; omega, f1, by show f ≤ 8; omega⟩, hb3, z⟩, by show n ≤ 2; omega, by show n + m ≤ n + 3; omega, by show f ≤ 5; omega⟩ (dx.trans d9)
abbrev s__law_cut : Stmt := topS 35
abbrev N__law_cut : List Str := ["body", "first", "gone", "found", "statement", "number", "kept", "here"]
theorem sc__law_cut : FnScope N__law_cut ["body", "first", "gone"] (defScope s__law_cut) := ⟨rfl, rfl, rfl, by decide +kernel, rfl, by decide +kernel, by decide +kernel⟩
theorem ok__law_cut {d : Nat} {k : Nat}  (T : TopD K mg "_law_cut" ["body", "first", "gone"] s__law_cut) (c__law_cut : CallF P w K mg base "_law_cut" 3 k (lowφ 1 φ__law_cut d)) (c__law_size : CallF P w K mg base "_law_size" 1 k (φ__law_size d))  :
    CallF P w K mg base "_law_cut" 3 (k + 1) (φ__law_cut d) := by
  refine call_of (N := N__law_cut) (k := k) T sc__law_cut fun f cdv A outer s H E hr => ⟨_, (pmss_cons (pms_set (i := 3) (fun W t => ps_set (i := 3) sc__law_cut.nd rfl (.inl rfl) ((pm_tup pma_nil) W t)))
      (pmss_cons (pms_for (passes_of rfl) rfl (pmi_seq (pm_var (pv 0))) (pmg_of (vs := [4]) (pg_name (i := 4) sc__law_cut.nd rfl (.inl rfl)))
      (pmss_cons (pms_par (i := 5) (j := 6) (fun W t => ps_par (i := 5) (j := 6) rfl sc__law_cut.nd rfl rfl (by decide) rfl rfl ((pma_cons (pm_var (pv 1)) (pma_cons (pm_var (pv 4)) pma_nil)) W t) (by rfl)))
      (pmss_cons (pms_set (i := 1) (fun W t => ps_set (i := 1) sc__law_cut.nd rfl (.inl rfl) ((pm_op od_add (pm_var (pv 1)) (pm_callF c__law_size hr (by rfl) (pma_cons (pm_tup (pma_cons (pm_var (pv 4)) pma_nil)) pma_nil))) W t)))
      (pmss_cons (pms_if (pmt_cmp (od_eq (Room.hu64 hr)) (pm_ixK (Room.hu1 hr) (pk_var (pv 4)) pm_int (fun _ _ => rfl)) pm_str (nomark _)) (pmss_cons (pms_set (i := 7) (fun W t => ps_set (i := 7) sc__law_cut.nd rfl (.inl rfl) ((pm_op od_add (pm_op od_add (pm_var (pv 5)) pm_int) (pm_callF c__law_size hr (by rfl) (pma_cons (pm_ixK (Room.hu1 hr) (pk_var (pv 4)) pm_int (fun _ _ => rfl)) pma_nil))) W t)))
      (pmss_cons (pms_set (i := 6) (fun W t => ps_set (i := 6) sc__law_cut.nd rfl (.inl rfl) ((pm_op od_add (pm_slice sld (pm_var (pv 4)) (.inl ⟨rfl, rfl⟩) (.inr ⟨_, _, rfl, rfl, pm_int⟩)) (pm_tup (pma_cons (pm_callF c__law_cut hr (by rfl) (pma_cons (pm_ixK (Room.hu1 hr) (pk_var (pv 4)) pm_int (fun _ _ => rfl)) (pma_cons (pm_op od_add (pm_var (pv 5)) pm_int) (pma_cons (pm_var (pv 2)) pma_nil)))) pma_nil))) W t)))
      (pmss_one (pms_set (i := 6) (fun W t => ps_set (i := 6) sc__law_cut.nd rfl (.inl rfl) ((pm_op od_add (pm_var (pv 6)) (pm_tup (pma_cons (pm_callF c__law_cut hr (by rfl) (pma_cons (pm_ixK (Room.hu1 hr) (pk_var (pv 4)) pm_int (fun _ _ => rfl)) (pma_cons (pm_var (pv 7)) (pma_cons (pm_var (pv 2)) pma_nil)))) pma_nil))) W t)))))) pmss_nil)
      (pmss_one (pms_set (i := 3) (fun W t => ps_set (i := 3) sc__law_cut.nd rfl (.inl rfl) ((pm_op od_add (pm_var (pv 3)) (pm_ifExp (pmt_cmp (od_eq (Room.hu64 hr)) (pm_var (pv 5)) (pm_var (pv 2)) (nomark _)) (pm_tup pma_nil) (pm_tup (pma_cons (pm_var (pv 6)) pma_nil)))) W t))))))))
      (pmss_one (pms_ret (pm_var (pv 3)))))), ?_⟩
  rintro ds Wo Q E' - ⟨b, first, gone, rfl, hb, q⟩
  have hl := (okB_iff.mp hb).1
  try simp only [↓pC, ↓pOp, ↓pUn, ↓pSl, ↓pPart, ↓pNil, ↓pCons, ↓pTup, ↓pLst, ↓pCallB, ↓pTest, ↓pNot, ↓pAnd, ↓pOr, ↓pAndV, ↓pOrV, ↓pNotV, ↓pIf, ↓pNext, ↓pSeq, ↓pBreak, ↓pCont, ↓pDrop, ↓pRet, ↓pRetN, ↓pIfS, ↓pgNil, ↓pgCons, ↓pgTup, ↓pAsg, ↓pRaise, ↓pCall, ↓pIter, ↓pFor, ↓pLc, ↓pYes, ↓pkOf, ↓pIxK, ↓pTabG, ↓pLenK, ↓pChain, ↓pStore, ↓pAppend, ↓pPop, ↓poLst, ↓poDct, ↓pNewW, ↓pRng1, ↓pRng2, ↓pTry, ↓pTryAs, ↓oEq, ↓oNe, ↓oLen, ↓oSum, ↓oAll, ↓oAny, ↓oIsi, start0, List.map_cons, List.map_nil, List.length_cons, List.length_nil, List.cons_append, List.nil_append, List.getElem?_cons_zero, List.getElem?_cons_succ, List.set_cons_zero, List.set_cons_succ, List.replicate, D.bl.injEq, D.int.injEq, D.str.injEq, D.tup.injEq, D.lst.injEq, exists_eq_left', exists_eq_left, Option.some.injEq, Bool.false_eq_true, if_true, if_false, true_and, and_true, false_and, and_false, isi_int, isi_bool, isi_str, isi_tuple, isi_list, isiT_int, isiT_bool, isiT_str, isiT_tuple, isiT_list, Bool.not_true, Bool.not_false, dat_non, dat_bl, dat_int, dat_str, dat_tup, dat_lst, isInt_non, isInt_bl, isInt_int, isInt_str, isInt_tup, isInt_lst, isBool_non, isBool_bl, isBool_int, isBool_str, isBool_tup, isBool_lst, isStr_non, isStr_bl, isStr_int, isStr_str, isStr_tup, isStr_lst, isTup_non, isTup_bl, isTup_int, isTup_str, isTup_tup, isTup_lst, isLst_non, isLst_bl, isLst_int, isLst_str, isLst_tup, isLst_lst, Nat.reduceAdd, Nat.zero_add, sz_0, sz_1, sz_2, sz_3, sz_4, sz_5, sz_6, sz_7, sz_8, sz_9, sz_10, sz_11, sz_12, List.any_cons, List.any_nil, eqD_tup, eqD_str, eqD_int, eqDs_cons, eqDs_nil, eqDs_cn, eqDs_nc, Bool.or_false, Bool.and_true, at0, at1, at2, at3, at4, good_int, good_bl, good_nil, good_nilL, good_non, eqDs_nil_r, eqDs_nil_l, List.isEmpty_nil, List.isEmpty_cons, Bool.and_false, Bool.or_true, Bool.false_or, Bool.true_or, Bool.false_and, Bool.true_and, encB, wipS_mk, List.foldr_cons, List.foldr_nil, con_updW, ↓ixC_ownD, ↓oIx_tup, ↓oIx_lst, ↓oIx_str, ↓lenC_ownL, ↓lenC_ownD, ↓setC_ownD, putC_adr, Own_lst_inj, Con_own_inj, updW_upd, Nat.reduceSub, Nat.sub_self, ↓itD_lst, ↓itD_tup, ↓oInt_i, ↓oCmp_i, ↓oAdd_i, ↓oAdd_s, ↓oAdd_t, ↓oAdd_l, ↓oNeg_i, ↓o1I_i, ↓o2I_i, ↓oSl_t, ↓oSl_l, ↓oList_t, ↓oList_l, ↓oTuple_t, ↓oTuple_l, ↓oIn_t, ↓oIn_l, ↓oIsN_n, ↓ixC_ownLi, ↓setC_ownLi, ixN20, ixN21, ex_int1, ex_int2, ↓pSet_eq, ↓ixK_tup, ↓ixK_lst, ↓ixK_str, ↓ixK_dct, ↓lenK_tup, ↓lenK_lst, ↓lenK_str, ↓pSetO_eq, ↓pPar_eq, ↓kPar_mk, ↓pVarV0, ↓pVarV1, ↓pVarV2, ↓pVarV3, ↓pVarV4, ↓pVarV5, ↓pVarV6, ↓pVarV7, ↓pVarL0, ↓pVarL1, ↓pVarL2, ↓pVarL3, ↓pVarL4, ↓pVarL5, ↓pVarL6, ↓pVarL7, ↓pVarD0, ↓pVarD1, ↓pVarD2, ↓pVarD3, ↓pVarD4, ↓pVarD5, ↓pVarD6, ↓pVarD7, ↓pkVarV0, ↓pkVarV1, ↓pkVarV2, ↓pkVarV3, ↓pkVarV4, ↓pkVarV5, ↓pkVarV6, ↓pkVarV7, ↓pkVarO0, ↓pkVarO1, ↓pkVarO2, ↓pkVarO3, ↓pkVarO4, ↓pkVarO5, ↓pkVarO6, ↓pkVarO7, ↓kSetN0, ↓kSetN1, ↓kSetN2, ↓kSetN3, ↓kSetN4, ↓kSetN5, ↓kSetN6, ↓kSetN7, ↓kSetO_N0, ↓kSetO_N1, ↓kSetO_N2, ↓kSetO_N3, ↓kSetO_N4, ↓kSetO_N5, ↓kSetO_N6, ↓kSetO_N7, ↓pgNameN0, ↓pgNameN1, ↓pgNameN2, ↓pgNameN3, ↓pgNameN4, ↓pgNameN5, ↓pgNameN6, ↓pgNameN7, ↓ixS0, ↓ixS1, ↓ixS2, ↓ixS3, ↓ixS4, ↓ixS5, ↓ixS6, ↓ixS7, ↓lenS0, ↓lenS1, ↓lenS2, ↓lenS3, ↓lenS4, ↓lenS5, ↓lenS6, ↓lenS7, ↓setS0, ↓setS1, ↓setS2, ↓setS3, ↓setS4, ↓setS5, ↓setS6, ↓setS7, ↓conS0, ↓conS1, ↓conS2, ↓conS3, ↓conS4, ↓conS5, ↓conS6, ↓conS7, ↓putS0, ↓putS1, ↓putS2, ↓putS3, ↓putS4, ↓putS5, ↓putS6, ↓putS7]
  rw [encSs_map]
  refine forW_list encS (fun r S => ∃ b0 first' s4 s5 s6 s7, (∀ x ∈ r, okS d x = true) ∧ b0.length + r.length ≤ 8 ∧ woB b first gone = b0 ++ woB r first' gone ∧ S = ⟨[.val (.tup (encSs b)), .val (.int first'), .val (.int gone), .val (.tup (b0.map encS)), s4, s5, s6, s7], Wo⟩) ?_ ?_ b _ ⟨[], first, .emp, .emp, .emp, .emp, (okB_iff.mp hb).2, by simpa using hl, rfl, by rw [encSs_map]; rfl⟩
  · rintro S ⟨b0, first', s4, s5, s6, s7, h1, h2, h3, rfl⟩
    try simp only [↓pC, ↓pOp, ↓pUn, ↓pSl, ↓pPart, ↓pNil, ↓pCons, ↓pTup, ↓pLst, ↓pCallB, ↓pTest, ↓pNot, ↓pAnd, ↓pOr, ↓pAndV, ↓pOrV, ↓pNotV, ↓pIf, ↓pNext, ↓pSeq, ↓pBreak, ↓pCont, ↓pDrop, ↓pRet, ↓pRetN, ↓pIfS, ↓pgNil, ↓pgCons, ↓pgTup, ↓pAsg, ↓pRaise, ↓pCall, ↓pIter, ↓pFor, ↓pLc, ↓pYes, ↓pkOf, ↓pIxK, ↓pTabG, ↓pLenK, ↓pChain, ↓pStore, ↓pAppend, ↓pPop, ↓poLst, ↓poDct, ↓pNewW, ↓pRng1, ↓pRng2, ↓pTry, ↓pTryAs, ↓oEq, ↓oNe, ↓oLen, ↓oSum, ↓oAll, ↓oAny, ↓oIsi, start0, List.map_cons, List.map_nil, List.length_cons, List.length_nil, List.cons_append, List.nil_append, List.getElem?_cons_zero, List.getElem?_cons_succ, List.set_cons_zero, List.set_cons_succ, List.replicate, D.bl.injEq, D.int.injEq, D.str.injEq, D.tup.injEq, D.lst.injEq, exists_eq_left', exists_eq_left, Option.some.injEq, Bool.false_eq_true, if_true, if_false, true_and, and_true, false_and, and_false, isi_int, isi_bool, isi_str, isi_tuple, isi_list, isiT_int, isiT_bool, isiT_str, isiT_tuple, isiT_list, Bool.not_true, Bool.not_false, dat_non, dat_bl, dat_int, dat_str, dat_tup, dat_lst, isInt_non, isInt_bl, isInt_int, isInt_str, isInt_tup, isInt_lst, isBool_non, isBool_bl, isBool_int, isBool_str, isBool_tup, isBool_lst, isStr_non, isStr_bl, isStr_int, isStr_str, isStr_tup, isStr_lst, isTup_non, isTup_bl, isTup_int, isTup_str, isTup_tup, isTup_lst, isLst_non, isLst_bl, isLst_int, isLst_str, isLst_tup, isLst_lst, Nat.reduceAdd, Nat.zero_add, sz_0, sz_1, sz_2, sz_3, sz_4, sz_5, sz_6, sz_7, sz_8, sz_9, sz_10, sz_11, sz_12, List.any_cons, List.any_nil, eqD_tup, eqD_str, eqD_int, eqDs_cons, eqDs_nil, eqDs_cn, eqDs_nc, Bool.or_false, Bool.and_true, at0, at1, at2, at3, at4, good_int, good_bl, good_nil, good_nilL, good_non, eqDs_nil_r, eqDs_nil_l, List.isEmpty_nil, List.isEmpty_cons, Bool.and_false, Bool.or_true, Bool.false_or, Bool.true_or, Bool.false_and, Bool.true_and, encB, wipS_mk, List.foldr_cons, List.foldr_nil, con_updW, ↓ixC_ownD, ↓oIx_tup, ↓oIx_lst, ↓oIx_str, ↓lenC_ownL, ↓lenC_ownD, ↓setC_ownD, putC_adr, Own_lst_inj, Con_own_inj, updW_upd, Nat.reduceSub, Nat.sub_self, ↓itD_lst, ↓itD_tup, ↓oInt_i, ↓oCmp_i, ↓oAdd_i, ↓oAdd_s, ↓oAdd_t, ↓oAdd_l, ↓oNeg_i, ↓o1I_i, ↓o2I_i, ↓oSl_t, ↓oSl_l, ↓oList_t, ↓oList_l, ↓oTuple_t, ↓oTuple_l, ↓oIn_t, ↓oIn_l, ↓oIsN_n, ↓ixC_ownLi, ↓setC_ownLi, ixN20, ixN21, ex_int1, ex_int2, ↓pSet_eq, ↓ixK_tup, ↓ixK_lst, ↓ixK_str, ↓ixK_dct, ↓lenK_tup, ↓lenK_lst, ↓lenK_str, ↓pSetO_eq, ↓pPar_eq, ↓kPar_mk, ↓pVarV0, ↓pVarV1, ↓pVarV2, ↓pVarV3, ↓pVarV4, ↓pVarV5, ↓pVarV6, ↓pVarV7, ↓pVarL0, ↓pVarL1, ↓pVarL2, ↓pVarL3, ↓pVarL4, ↓pVarL5, ↓pVarL6, ↓pVarL7, ↓pVarD0, ↓pVarD1, ↓pVarD2, ↓pVarD3, ↓pVarD4, ↓pVarD5, ↓pVarD6, ↓pVarD7, ↓pkVarV0, ↓pkVarV1, ↓pkVarV2, ↓pkVarV3, ↓pkVarV4, ↓pkVarV5, ↓pkVarV6, ↓pkVarV7, ↓pkVarO0, ↓pkVarO1, ↓pkVarO2, ↓pkVarO3, ↓pkVarO4, ↓pkVarO5, ↓pkVarO6, ↓pkVarO7, ↓kSetN0, ↓kSetN1, ↓kSetN2, ↓kSetN3, ↓kSetN4, ↓kSetN5, ↓kSetN6, ↓kSetN7, ↓kSetO_N0, ↓kSetO_N1, ↓kSetO_N2, ↓kSetO_N3, ↓kSetO_N4, ↓kSetO_N5, ↓kSetO_N6, ↓kSetO_N7, ↓pgNameN0, ↓pgNameN1, ↓pgNameN2, ↓pgNameN3, ↓pgNameN4, ↓pgNameN5, ↓pgNameN6, ↓pgNameN7, ↓ixS0, ↓ixS1, ↓ixS2, ↓ixS3, ↓ixS4, ↓ixS5, ↓ixS6, ↓ixS7, ↓lenS0, ↓lenS1, ↓lenS2, ↓lenS3, ↓lenS4, ↓lenS5, ↓lenS6, ↓lenS7, ↓setS0, ↓setS1, ↓setS2, ↓setS3, ↓setS4, ↓setS5, ↓setS6, ↓setS7, ↓conS0, ↓conS1, ↓conS2, ↓conS3, ↓conS4, ↓conS5, ↓conS6, ↓conS7, ↓putS0, ↓putS1, ↓putS2, ↓putS3, ↓putS4, ↓putS5, ↓putS6, ↓putS7]
    rw [h3, woB, List.append_nil, encB, encSs_map] at q
    exact q
  · rintro s r S K' ⟨b0, first', s4, s5, s6, s7, h1, h2, h3, rfl⟩ hK
    have hs := h1 s (List.mem_cons_self ..)
    have h8 : b0.length ≤ 7 := by simp only [List.length_cons] at h2; omega
    have fin : ∀ s5 s6 s7, K' ⟨[.val (.tup (encSs b)), .val (.int (first' + (listedS s).length)), .val (.int gone), .val (.tup ((b0 ++ (if first' = gone then [] else [woS s first' gone])).map encS)), .val (encS s), s5, s6, s7], Wo⟩ := fun s5 s6 s7 => hK _ ⟨b0 ++ (if first' = gone then [] else [woS s first' gone]), _, _, _, _, _, fun x hx => h1 x (List.mem_cons_of_mem _ hx), by simp only [List.length_cons] at h2; split <;> simp <;> omega, by rw [h3, woB]; split <;> simp, rfl⟩
    have o1 : okB d [s] = true := okB_iff.mpr ⟨by simp, fun x hx => by rw [List.mem_singleton.mp hx]; exact hs⟩
    have last : ∀ (i : Int) y s7, i = first' + (listedS s).length → y = encS (woS s first' gone) → if (first' == gone) = true then (b0.map encS).length + 0 ≤ sizeLine ∧ K' ⟨[.val (.tup (encSs b)), .val (.int i), .val (.int gone), .val (.tup (b0.map encS ++ [])), .val (encS s), .val (.int first'), .val y, s7], Wo⟩
        else (b0.map encS).length + 1 ≤ sizeLine ∧ K' ⟨[.val (.tup (encSs b)), .val (.int i), .val (.int gone), .val (.tup (b0.map encS ++ [y])), .val (encS s), .val (.int first'), .val y, s7], Wo⟩ := fun i y s7 hi hy => by
      subst hi
      subst hy
      have := fin (.val (.int first')) (.val (encS (woS s first' gone))) s7
      refine ite2 (fun c => ?_) (fun c => ?_)
      · have c : first' = gone := by simpa using c
        rw [if_pos c, List.append_nil] at this
        refine ⟨by show _ ≤ 2 ^ 24; rw [List.length_map]; omega, ?_⟩
        rw [List.append_nil]
        exact this
      · have c : first' ≠ gone := by simpa using c
        rw [if_neg c, List.map_append] at this
        exact ⟨by show _ ≤ 2 ^ 24; rw [List.length_map]; omega, this⟩
    have e1 : listedB [s] = listedS s := by rw [listedB, listedB, List.append_nil]
    try simp only [↓pC, ↓pOp, ↓pUn, ↓pSl, ↓pPart, ↓pNil, ↓pCons, ↓pTup, ↓pLst, ↓pCallB, ↓pTest, ↓pNot, ↓pAnd, ↓pOr, ↓pAndV, ↓pOrV, ↓pNotV, ↓pIf, ↓pNext, ↓pSeq, ↓pBreak, ↓pCont, ↓pDrop, ↓pRet, ↓pRetN, ↓pIfS, ↓pgNil, ↓pgCons, ↓pgTup, ↓pAsg, ↓pRaise, ↓pCall, ↓pIter, ↓pFor, ↓pLc, ↓pYes, ↓pkOf, ↓pIxK, ↓pTabG, ↓pLenK, ↓pChain, ↓pStore, ↓pAppend, ↓pPop, ↓poLst, ↓poDct, ↓pNewW, ↓pRng1, ↓pRng2, ↓pTry, ↓pTryAs, ↓oEq, ↓oNe, ↓oLen, ↓oSum, ↓oAll, ↓oAny, ↓oIsi, start0, List.map_cons, List.map_nil, List.length_cons, List.length_nil, List.cons_append, List.nil_append, List.getElem?_cons_zero, List.getElem?_cons_succ, List.set_cons_zero, List.set_cons_succ, List.replicate, D.bl.injEq, D.int.injEq, D.str.injEq, D.tup.injEq, D.lst.injEq, exists_eq_left', exists_eq_left, Option.some.injEq, Bool.false_eq_true, if_true, if_false, true_and, and_true, false_and, and_false, isi_int, isi_bool, isi_str, isi_tuple, isi_list, isiT_int, isiT_bool, isiT_str, isiT_tuple, isiT_list, Bool.not_true, Bool.not_false, dat_non, dat_bl, dat_int, dat_str, dat_tup, dat_lst, isInt_non, isInt_bl, isInt_int, isInt_str, isInt_tup, isInt_lst, isBool_non, isBool_bl, isBool_int, isBool_str, isBool_tup, isBool_lst, isStr_non, isStr_bl, isStr_int, isStr_str, isStr_tup, isStr_lst, isTup_non, isTup_bl, isTup_int, isTup_str, isTup_tup, isTup_lst, isLst_non, isLst_bl, isLst_int, isLst_str, isLst_tup, isLst_lst, Nat.reduceAdd, Nat.zero_add, sz_0, sz_1, sz_2, sz_3, sz_4, sz_5, sz_6, sz_7, sz_8, sz_9, sz_10, sz_11, sz_12, List.any_cons, List.any_nil, eqD_tup, eqD_str, eqD_int, eqDs_cons, eqDs_nil, eqDs_cn, eqDs_nc, Bool.or_false, Bool.and_true, at0, at1, at2, at3, at4, good_int, good_bl, good_nil, good_nilL, good_non, eqDs_nil_r, eqDs_nil_l, List.isEmpty_nil, List.isEmpty_cons, Bool.and_false, Bool.or_true, Bool.false_or, Bool.true_or, Bool.false_and, Bool.true_and, encB, wipS_mk, List.foldr_cons, List.foldr_nil, con_updW, ↓ixC_ownD, ↓oIx_tup, ↓oIx_lst, ↓oIx_str, ↓lenC_ownL, ↓lenC_ownD, ↓setC_ownD, putC_adr, Own_lst_inj, Con_own_inj, updW_upd, Nat.reduceSub, Nat.sub_self, ↓itD_lst, ↓itD_tup, ↓oInt_i, ↓oCmp_i, ↓oAdd_i, ↓oAdd_s, ↓oAdd_t, ↓oAdd_l, ↓oNeg_i, ↓o1I_i, ↓o2I_i, ↓oSl_t, ↓oSl_l, ↓oList_t, ↓oList_l, ↓oTuple_t, ↓oTuple_l, ↓oIn_t, ↓oIn_l, ↓oIsN_n, ↓ixC_ownLi, ↓setC_ownLi, ixN20, ixN21, ex_int1, ex_int2, ↓pSet_eq, ↓ixK_tup, ↓ixK_lst, ↓ixK_str, ↓ixK_dct, ↓lenK_tup, ↓lenK_lst, ↓lenK_str, ↓pSetO_eq, ↓pPar_eq, ↓kPar_mk, ↓pVarV0, ↓pVarV1, ↓pVarV2, ↓pVarV3, ↓pVarV4, ↓pVarV5, ↓pVarV6, ↓pVarV7, ↓pVarL0, ↓pVarL1, ↓pVarL2, ↓pVarL3, ↓pVarL4, ↓pVarL5, ↓pVarL6, ↓pVarL7, ↓pVarD0, ↓pVarD1, ↓pVarD2, ↓pVarD3, ↓pVarD4, ↓pVarD5, ↓pVarD6, ↓pVarD7, ↓pkVarV0, ↓pkVarV1, ↓pkVarV2, ↓pkVarV3, ↓pkVarV4, ↓pkVarV5, ↓pkVarV6, ↓pkVarV7, ↓pkVarO0, ↓pkVarO1, ↓pkVarO2, ↓pkVarO3, ↓pkVarO4, ↓pkVarO5, ↓pkVarO6, ↓pkVarO7, ↓kSetN0, ↓kSetN1, ↓kSetN2, ↓kSetN3, ↓kSetN4, ↓kSetN5, ↓kSetN6, ↓kSetN7, ↓kSetO_N0, ↓kSetO_N1, ↓kSetO_N2, ↓kSetO_N3, ↓kSetO_N4, ↓kSetO_N5, ↓kSetO_N6, ↓kSetO_N7, ↓pgNameN0, ↓pgNameN1, ↓pgNameN2, ↓pgNameN3, ↓pgNameN4, ↓pgNameN5, ↓pgNameN6, ↓pgNameN7, ↓ixS0, ↓ixS1, ↓ixS2, ↓ixS3, ↓ixS4, ↓ixS5, ↓ixS6, ↓ixS7, ↓lenS0, ↓lenS1, ↓lenS2, ↓lenS3, ↓lenS4, ↓lenS5, ↓lenS6, ↓lenS7, ↓setS0, ↓setS1, ↓setS2, ↓setS3, ↓setS4, ↓setS5, ↓setS6, ↓setS7, ↓conS0, ↓conS1, ↓conS2, ↓conS3, ↓conS4, ↓conS5, ↓conS6, ↓conS7, ↓putS0, ↓putS1, ↓putS2, ↓putS3, ↓putS4, ↓putS5, ↓putS6, ↓putS7]
    refine ⟨[s], rfl, o1, ?_⟩
    rw [e1]
    have g1 : D.good (.str "if") = true := by decide +kernel
    cases s with
    | ite t x y =>
      cases d with
      | zero => simp [okS] at hs
      | succ d =>
        obtain ⟨_, hx, hy⟩ := okS_ite.mp hs
        have hx' := okB_mono hx (Nat.le_succ d)
        try simp only [encS, g1, Nat.add_sub_cancel, cut_to2, ↓pC, ↓pOp, ↓pUn, ↓pSl, ↓pPart, ↓pNil, ↓pCons, ↓pTup, ↓pLst, ↓pCallB, ↓pTest, ↓pNot, ↓pAnd, ↓pOr, ↓pAndV, ↓pOrV, ↓pNotV, ↓pIf, ↓pNext, ↓pSeq, ↓pBreak, ↓pCont, ↓pDrop, ↓pRet, ↓pRetN, ↓pIfS, ↓pgNil, ↓pgCons, ↓pgTup, ↓pAsg, ↓pRaise, ↓pCall, ↓pIter, ↓pFor, ↓pLc, ↓pYes, ↓pkOf, ↓pIxK, ↓pTabG, ↓pLenK, ↓pChain, ↓pStore, ↓pAppend, ↓pPop, ↓poLst, ↓poDct, ↓pNewW, ↓pRng1, ↓pRng2, ↓pTry, ↓pTryAs, ↓oEq, ↓oNe, ↓oLen, ↓oSum, ↓oAll, ↓oAny, ↓oIsi, start0, List.map_cons, List.map_nil, List.length_cons, List.length_nil, List.cons_append, List.nil_append, List.getElem?_cons_zero, List.getElem?_cons_succ, List.set_cons_zero, List.set_cons_succ, List.replicate, D.bl.injEq, D.int.injEq, D.str.injEq, D.tup.injEq, D.lst.injEq, exists_eq_left', exists_eq_left, Option.some.injEq, Bool.false_eq_true, if_true, if_false, true_and, and_true, false_and, and_false, isi_int, isi_bool, isi_str, isi_tuple, isi_list, isiT_int, isiT_bool, isiT_str, isiT_tuple, isiT_list, Bool.not_true, Bool.not_false, dat_non, dat_bl, dat_int, dat_str, dat_tup, dat_lst, isInt_non, isInt_bl, isInt_int, isInt_str, isInt_tup, isInt_lst, isBool_non, isBool_bl, isBool_int, isBool_str, isBool_tup, isBool_lst, isStr_non, isStr_bl, isStr_int, isStr_str, isStr_tup, isStr_lst, isTup_non, isTup_bl, isTup_int, isTup_str, isTup_tup, isTup_lst, isLst_non, isLst_bl, isLst_int, isLst_str, isLst_tup, isLst_lst, Nat.reduceAdd, Nat.zero_add, sz_0, sz_1, sz_2, sz_3, sz_4, sz_5, sz_6, sz_7, sz_8, sz_9, sz_10, sz_11, sz_12, List.any_cons, List.any_nil, eqD_tup, eqD_str, eqD_int, eqDs_cons, eqDs_nil, eqDs_cn, eqDs_nc, Bool.or_false, Bool.and_true, at0, at1, at2, at3, at4, good_int, good_bl, good_nil, good_nilL, good_non, eqDs_nil_r, eqDs_nil_l, List.isEmpty_nil, List.isEmpty_cons, Bool.and_false, Bool.or_true, Bool.false_or, Bool.true_or, Bool.false_and, Bool.true_and, encB, wipS_mk, List.foldr_cons, List.foldr_nil, con_updW, ↓ixC_ownD, ↓oIx_tup, ↓oIx_lst, ↓oIx_str, ↓lenC_ownL, ↓lenC_ownD, ↓setC_ownD, putC_adr, Own_lst_inj, Con_own_inj, updW_upd, Nat.reduceSub, Nat.sub_self, ↓itD_lst, ↓itD_tup, ↓oInt_i, ↓oCmp_i, ↓oAdd_i, ↓oAdd_s, ↓oAdd_t, ↓oAdd_l, ↓oNeg_i, ↓o1I_i, ↓o2I_i, ↓oSl_t, ↓oSl_l, ↓oList_t, ↓oList_l, ↓oTuple_t, ↓oTuple_l, ↓oIn_t, ↓oIn_l, ↓oIsN_n, ↓ixC_ownLi, ↓setC_ownLi, ixN20, ixN21, ex_int1, ex_int2, ↓pSet_eq, ↓ixK_tup, ↓ixK_lst, ↓ixK_str, ↓ixK_dct, ↓lenK_tup, ↓lenK_lst, ↓lenK_str, ↓pSetO_eq, ↓pPar_eq, ↓kPar_mk, ↓pVarV0, ↓pVarV1, ↓pVarV2, ↓pVarV3, ↓pVarV4, ↓pVarV5, ↓pVarV6, ↓pVarV7, ↓pVarL0, ↓pVarL1, ↓pVarL2, ↓pVarL3, ↓pVarL4, ↓pVarL5, ↓pVarL6, ↓pVarL7, ↓pVarD0, ↓pVarD1, ↓pVarD2, ↓pVarD3, ↓pVarD4, ↓pVarD5, ↓pVarD6, ↓pVarD7, ↓pkVarV0, ↓pkVarV1, ↓pkVarV2, ↓pkVarV3, ↓pkVarV4, ↓pkVarV5, ↓pkVarV6, ↓pkVarV7, ↓pkVarO0, ↓pkVarO1, ↓pkVarO2, ↓pkVarO3, ↓pkVarO4, ↓pkVarO5, ↓pkVarO6, ↓pkVarO7, ↓kSetN0, ↓kSetN1, ↓kSetN2, ↓kSetN3, ↓kSetN4, ↓kSetN5, ↓kSetN6, ↓kSetN7, ↓kSetO_N0, ↓kSetO_N1, ↓kSetO_N2, ↓kSetO_N3, ↓kSetO_N4, ↓kSetO_N5, ↓kSetO_N6, ↓kSetO_N7, ↓pgNameN0, ↓pgNameN1, ↓pgNameN2, ↓pgNameN3, ↓pgNameN4, ↓pgNameN5, ↓pgNameN6, ↓pgNameN7, ↓ixS0, ↓ixS1, ↓ixS2, ↓ixS3, ↓ixS4, ↓ixS5, ↓ixS6, ↓ixS7, ↓lenS0, ↓lenS1, ↓lenS2, ↓lenS3, ↓lenS4, ↓lenS5, ↓lenS6, ↓lenS7, ↓setS0, ↓setS1, ↓setS2, ↓setS3, ↓setS4, ↓setS5, ↓setS6, ↓setS7, ↓conS0, ↓conS1, ↓conS2, ↓conS3, ↓conS4, ↓conS5, ↓conS6, ↓conS7, ↓putS0, ↓putS1, ↓putS2, ↓putS3, ↓putS4, ↓putS5, ↓putS6, ↓putS7]
        refine ite2 (fun _ => ?_) (fun c => absurd rfl c)
        refine ⟨x, rfl, hx', ?_⟩
        try simp only [encS, g1, Nat.add_sub_cancel, cut_to2, List.take_succ_cons, List.take_zero, ↓pC, ↓pOp, ↓pUn, ↓pSl, ↓pPart, ↓pNil, ↓pCons, ↓pTup, ↓pLst, ↓pCallB, ↓pTest, ↓pNot, ↓pAnd, ↓pOr, ↓pAndV, ↓pOrV, ↓pNotV, ↓pIf, ↓pNext, ↓pSeq, ↓pBreak, ↓pCont, ↓pDrop, ↓pRet, ↓pRetN, ↓pIfS, ↓pgNil, ↓pgCons, ↓pgTup, ↓pAsg, ↓pRaise, ↓pCall, ↓pIter, ↓pFor, ↓pLc, ↓pYes, ↓pkOf, ↓pIxK, ↓pTabG, ↓pLenK, ↓pChain, ↓pStore, ↓pAppend, ↓pPop, ↓poLst, ↓poDct, ↓pNewW, ↓pRng1, ↓pRng2, ↓pTry, ↓pTryAs, ↓oEq, ↓oNe, ↓oLen, ↓oSum, ↓oAll, ↓oAny, ↓oIsi, start0, List.map_cons, List.map_nil, List.length_cons, List.length_nil, List.cons_append, List.nil_append, List.getElem?_cons_zero, List.getElem?_cons_succ, List.set_cons_zero, List.set_cons_succ, List.replicate, D.bl.injEq, D.int.injEq, D.str.injEq, D.tup.injEq, D.lst.injEq, exists_eq_left', exists_eq_left, Option.some.injEq, Bool.false_eq_true, if_true, if_false, true_and, and_true, false_and, and_false, isi_int, isi_bool, isi_str, isi_tuple, isi_list, isiT_int, isiT_bool, isiT_str, isiT_tuple, isiT_list, Bool.not_true, Bool.not_false, dat_non, dat_bl, dat_int, dat_str, dat_tup, dat_lst, isInt_non, isInt_bl, isInt_int, isInt_str, isInt_tup, isInt_lst, isBool_non, isBool_bl, isBool_int, isBool_str, isBool_tup, isBool_lst, isStr_non, isStr_bl, isStr_int, isStr_str, isStr_tup, isStr_lst, isTup_non, isTup_bl, isTup_int, isTup_str, isTup_tup, isTup_lst, isLst_non, isLst_bl, isLst_int, isLst_str, isLst_tup, isLst_lst, Nat.reduceAdd, Nat.zero_add, sz_0, sz_1, sz_2, sz_3, sz_4, sz_5, sz_6, sz_7, sz_8, sz_9, sz_10, sz_11, sz_12, List.any_cons, List.any_nil, eqD_tup, eqD_str, eqD_int, eqDs_cons, eqDs_nil, eqDs_cn, eqDs_nc, Bool.or_false, Bool.and_true, at0, at1, at2, at3, at4, good_int, good_bl, good_nil, good_nilL, good_non, eqDs_nil_r, eqDs_nil_l, List.isEmpty_nil, List.isEmpty_cons, Bool.and_false, Bool.or_true, Bool.false_or, Bool.true_or, Bool.false_and, Bool.true_and, encB, wipS_mk, List.foldr_cons, List.foldr_nil, con_updW, ↓ixC_ownD, ↓oIx_tup, ↓oIx_lst, ↓oIx_str, ↓lenC_ownL, ↓lenC_ownD, ↓setC_ownD, putC_adr, Own_lst_inj, Con_own_inj, updW_upd, Nat.reduceSub, Nat.sub_self, ↓itD_lst, ↓itD_tup, ↓oInt_i, ↓oCmp_i, ↓oAdd_i, ↓oAdd_s, ↓oAdd_t, ↓oAdd_l, ↓oNeg_i, ↓o1I_i, ↓o2I_i, ↓oSl_t, ↓oSl_l, ↓oList_t, ↓oList_l, ↓oTuple_t, ↓oTuple_l, ↓oIn_t, ↓oIn_l, ↓oIsN_n, ↓ixC_ownLi, ↓setC_ownLi, ixN20, ixN21, ex_int1, ex_int2, ↓pSet_eq, ↓ixK_tup, ↓ixK_lst, ↓ixK_str, ↓ixK_dct, ↓lenK_tup, ↓lenK_lst, ↓lenK_str, ↓pSetO_eq, ↓pPar_eq, ↓kPar_mk, ↓pVarV0, ↓pVarV1, ↓pVarV2, ↓pVarV3, ↓pVarV4, ↓pVarV5, ↓pVarV6, ↓pVarV7, ↓pVarL0, ↓pVarL1, ↓pVarL2, ↓pVarL3, ↓pVarL4, ↓pVarL5, ↓pVarL6, ↓pVarL7, ↓pVarD0, ↓pVarD1, ↓pVarD2, ↓pVarD3, ↓pVarD4, ↓pVarD5, ↓pVarD6, ↓pVarD7, ↓pkVarV0, ↓pkVarV1, ↓pkVarV2, ↓pkVarV3, ↓pkVarV4, ↓pkVarV5, ↓pkVarV6, ↓pkVarV7, ↓pkVarO0, ↓pkVarO1, ↓pkVarO2, ↓pkVarO3, ↓pkVarO4, ↓pkVarO5, ↓pkVarO6, ↓pkVarO7, ↓kSetN0, ↓kSetN1, ↓kSetN2, ↓kSetN3, ↓kSetN4, ↓kSetN5, ↓kSetN6, ↓kSetN7, ↓kSetO_N0, ↓kSetO_N1, ↓kSetO_N2, ↓kSetO_N3, ↓kSetO_N4, ↓kSetO_N5, ↓kSetO_N6, ↓kSetO_N7, ↓pgNameN0, ↓pgNameN1, ↓pgNameN2, ↓pgNameN3, ↓pgNameN4, ↓pgNameN5, ↓pgNameN6, ↓pgNameN7, ↓ixS0, ↓ixS1, ↓ixS2, ↓ixS3, ↓ixS4, ↓ixS5, ↓ixS6, ↓ixS7, ↓lenS0, ↓lenS1, ↓lenS2, ↓lenS3, ↓lenS4, ↓lenS5, ↓lenS6, ↓lenS7, ↓setS0, ↓setS1, ↓setS2, ↓setS3, ↓setS4, ↓setS5, ↓setS6, ↓setS7, ↓conS0, ↓conS1, ↓conS2, ↓conS3, ↓conS4, ↓conS5, ↓conS6, ↓conS7, ↓putS0, ↓putS1, ↓putS2, ↓putS3, ↓putS4, ↓putS5, ↓putS6, ↓putS7]
        refine ⟨by omega, x, _, _, rfl, hx, ?_⟩
        try simp only [↓pC, ↓pOp, ↓pUn, ↓pSl, ↓pPart, ↓pNil, ↓pCons, ↓pTup, ↓pLst, ↓pCallB, ↓pTest, ↓pNot, ↓pAnd, ↓pOr, ↓pAndV, ↓pOrV, ↓pNotV, ↓pIf, ↓pNext, ↓pSeq, ↓pBreak, ↓pCont, ↓pDrop, ↓pRet, ↓pRetN, ↓pIfS, ↓pgNil, ↓pgCons, ↓pgTup, ↓pAsg, ↓pRaise, ↓pCall, ↓pIter, ↓pFor, ↓pLc, ↓pYes, ↓pkOf, ↓pIxK, ↓pTabG, ↓pLenK, ↓pChain, ↓pStore, ↓pAppend, ↓pPop, ↓poLst, ↓poDct, ↓pNewW, ↓pRng1, ↓pRng2, ↓pTry, ↓pTryAs, ↓oEq, ↓oNe, ↓oLen, ↓oSum, ↓oAll, ↓oAny, ↓oIsi, start0, List.map_cons, List.map_nil, List.length_cons, List.length_nil, List.cons_append, List.nil_append, List.getElem?_cons_zero, List.getElem?_cons_succ, List.set_cons_zero, List.set_cons_succ, List.replicate, D.bl.injEq, D.int.injEq, D.str.injEq, D.tup.injEq, D.lst.injEq, exists_eq_left', exists_eq_left, Option.some.injEq, Bool.false_eq_true, if_true, if_false, true_and, and_true, false_and, and_false, isi_int, isi_bool, isi_str, isi_tuple, isi_list, isiT_int, isiT_bool, isiT_str, isiT_tuple, isiT_list, Bool.not_true, Bool.not_false, dat_non, dat_bl, dat_int, dat_str, dat_tup, dat_lst, isInt_non, isInt_bl, isInt_int, isInt_str, isInt_tup, isInt_lst, isBool_non, isBool_bl, isBool_int, isBool_str, isBool_tup, isBool_lst, isStr_non, isStr_bl, isStr_int, isStr_str, isStr_tup, isStr_lst, isTup_non, isTup_bl, isTup_int, isTup_str, isTup_tup, isTup_lst, isLst_non, isLst_bl, isLst_int, isLst_str, isLst_tup, isLst_lst, Nat.reduceAdd, Nat.zero_add, sz_0, sz_1, sz_2, sz_3, sz_4, sz_5, sz_6, sz_7, sz_8, sz_9, sz_10, sz_11, sz_12, List.any_cons, List.any_nil, eqD_tup, eqD_str, eqD_int, eqDs_cons, eqDs_nil, eqDs_cn, eqDs_nc, Bool.or_false, Bool.and_true, at0, at1, at2, at3, at4, good_int, good_bl, good_nil, good_nilL, good_non, eqDs_nil_r, eqDs_nil_l, List.isEmpty_nil, List.isEmpty_cons, Bool.and_false, Bool.or_true, Bool.false_or, Bool.true_or, Bool.false_and, Bool.true_and, encB, wipS_mk, List.foldr_cons, List.foldr_nil, con_updW, ↓ixC_ownD, ↓oIx_tup, ↓oIx_lst, ↓oIx_str, ↓lenC_ownL, ↓lenC_ownD, ↓setC_ownD, putC_adr, Own_lst_inj, Con_own_inj, updW_upd, Nat.reduceSub, Nat.sub_self, ↓itD_lst, ↓itD_tup, ↓oInt_i, ↓oCmp_i, ↓oAdd_i, ↓oAdd_s, ↓oAdd_t, ↓oAdd_l, ↓oNeg_i, ↓o1I_i, ↓o2I_i, ↓oSl_t, ↓oSl_l, ↓oList_t, ↓oList_l, ↓oTuple_t, ↓oTuple_l, ↓oIn_t, ↓oIn_l, ↓oIsN_n, ↓ixC_ownLi, ↓setC_ownLi, ixN20, ixN21, ex_int1, ex_int2, ↓pSet_eq, ↓ixK_tup, ↓ixK_lst, ↓ixK_str, ↓ixK_dct, ↓lenK_tup, ↓lenK_lst, ↓lenK_str, ↓pSetO_eq, ↓pPar_eq, ↓kPar_mk, ↓pVarV0, ↓pVarV1, ↓pVarV2, ↓pVarV3, ↓pVarV4, ↓pVarV5, ↓pVarV6, ↓pVarV7, ↓pVarL0, ↓pVarL1, ↓pVarL2, ↓pVarL3, ↓pVarL4, ↓pVarL5, ↓pVarL6, ↓pVarL7, ↓pVarD0, ↓pVarD1, ↓pVarD2, ↓pVarD3, ↓pVarD4, ↓pVarD5, ↓pVarD6, ↓pVarD7, ↓pkVarV0, ↓pkVarV1, ↓pkVarV2, ↓pkVarV3, ↓pkVarV4, ↓pkVarV5, ↓pkVarV6, ↓pkVarV7, ↓pkVarO0, ↓pkVarO1, ↓pkVarO2, ↓pkVarO3, ↓pkVarO4, ↓pkVarO5, ↓pkVarO6, ↓pkVarO7, ↓kSetN0, ↓kSetN1, ↓kSetN2, ↓kSetN3, ↓kSetN4, ↓kSetN5, ↓kSetN6, ↓kSetN7, ↓kSetO_N0, ↓kSetO_N1, ↓kSetO_N2, ↓kSetO_N3, ↓kSetO_N4, ↓kSetO_N5, ↓kSetO_N6, ↓kSetO_N7, ↓pgNameN0, ↓pgNameN1, ↓pgNameN2, ↓pgNameN3, ↓pgNameN4, ↓pgNameN5, ↓pgNameN6, ↓pgNameN7, ↓ixS0, ↓ixS1, ↓ixS2, ↓ixS3, ↓ixS4, ↓ixS5, ↓ixS6, ↓ixS7, ↓lenS0, ↓lenS1, ↓lenS2, ↓lenS3, ↓lenS4, ↓lenS5, ↓lenS6, ↓lenS7, ↓setS0, ↓setS1, ↓setS2, ↓setS3, ↓setS4, ↓setS5, ↓setS6, ↓setS7, ↓conS0, ↓conS1, ↓conS2, ↓conS3, ↓conS4, ↓conS5, ↓conS6, ↓conS7, ↓putS0, ↓putS1, ↓putS2, ↓putS3, ↓putS4, ↓putS5, ↓putS6, ↓putS7]
        refine ⟨by omega, y, _, _, rfl, hy, ?_⟩
        try simp only [↓pC, ↓pOp, ↓pUn, ↓pSl, ↓pPart, ↓pNil, ↓pCons, ↓pTup, ↓pLst, ↓pCallB, ↓pTest, ↓pNot, ↓pAnd, ↓pOr, ↓pAndV, ↓pOrV, ↓pNotV, ↓pIf, ↓pNext, ↓pSeq, ↓pBreak, ↓pCont, ↓pDrop, ↓pRet, ↓pRetN, ↓pIfS, ↓pgNil, ↓pgCons, ↓pgTup, ↓pAsg, ↓pRaise, ↓pCall, ↓pIter, ↓pFor, ↓pLc, ↓pYes, ↓pkOf, ↓pIxK, ↓pTabG, ↓pLenK, ↓pChain, ↓pStore, ↓pAppend, ↓pPop, ↓poLst, ↓poDct, ↓pNewW, ↓pRng1, ↓pRng2, ↓pTry, ↓pTryAs, ↓oEq, ↓oNe, ↓oLen, ↓oSum, ↓oAll, ↓oAny, ↓oIsi, start0, List.map_cons, List.map_nil, List.length_cons, List.length_nil, List.cons_append, List.nil_append, List.getElem?_cons_zero, List.getElem?_cons_succ, List.set_cons_zero, List.set_cons_succ, List.replicate, D.bl.injEq, D.int.injEq, D.str.injEq, D.tup.injEq, D.lst.injEq, exists_eq_left', exists_eq_left, Option.some.injEq, Bool.false_eq_true, if_true, if_false, true_and, and_true, false_and, and_false, isi_int, isi_bool, isi_str, isi_tuple, isi_list, isiT_int, isiT_bool, isiT_str, isiT_tuple, isiT_list, Bool.not_true, Bool.not_false, dat_non, dat_bl, dat_int, dat_str, dat_tup, dat_lst, isInt_non, isInt_bl, isInt_int, isInt_str, isInt_tup, isInt_lst, isBool_non, isBool_bl, isBool_int, isBool_str, isBool_tup, isBool_lst, isStr_non, isStr_bl, isStr_int, isStr_str, isStr_tup, isStr_lst, isTup_non, isTup_bl, isTup_int, isTup_str, isTup_tup, isTup_lst, isLst_non, isLst_bl, isLst_int, isLst_str, isLst_tup, isLst_lst, Nat.reduceAdd, Nat.zero_add, sz_0, sz_1, sz_2, sz_3, sz_4, sz_5, sz_6, sz_7, sz_8, sz_9, sz_10, sz_11, sz_12, List.any_cons, List.any_nil, eqD_tup, eqD_str, eqD_int, eqDs_cons, eqDs_nil, eqDs_cn, eqDs_nc, Bool.or_false, Bool.and_true, at0, at1, at2, at3, at4, good_int, good_bl, good_nil, good_nilL, good_non, eqDs_nil_r, eqDs_nil_l, List.isEmpty_nil, List.isEmpty_cons, Bool.and_false, Bool.or_true, Bool.false_or, Bool.true_or, Bool.false_and, Bool.true_and, encB, wipS_mk, List.foldr_cons, List.foldr_nil, con_updW, ↓ixC_ownD, ↓oIx_tup, ↓oIx_lst, ↓oIx_str, ↓lenC_ownL, ↓lenC_ownD, ↓setC_ownD, putC_adr, Own_lst_inj, Con_own_inj, updW_upd, Nat.reduceSub, Nat.sub_self, ↓itD_lst, ↓itD_tup, ↓oInt_i, ↓oCmp_i, ↓oAdd_i, ↓oAdd_s, ↓oAdd_t, ↓oAdd_l, ↓oNeg_i, ↓o1I_i, ↓o2I_i, ↓oSl_t, ↓oSl_l, ↓oList_t, ↓oList_l, ↓oTuple_t, ↓oTuple_l, ↓oIn_t, ↓oIn_l, ↓oIsN_n, ↓ixC_ownLi, ↓setC_ownLi, ixN20, ixN21, ex_int1, ex_int2, ↓pSet_eq, ↓ixK_tup, ↓ixK_lst, ↓ixK_str, ↓ixK_dct, ↓lenK_tup, ↓lenK_lst, ↓lenK_str, ↓pSetO_eq, ↓pPar_eq, ↓kPar_mk, ↓pVarV0, ↓pVarV1, ↓pVarV2, ↓pVarV3, ↓pVarV4, ↓pVarV5, ↓pVarV6, ↓pVarV7, ↓pVarL0, ↓pVarL1, ↓pVarL2, ↓pVarL3, ↓pVarL4, ↓pVarL5, ↓pVarL6, ↓pVarL7, ↓pVarD0, ↓pVarD1, ↓pVarD2, ↓pVarD3, ↓pVarD4, ↓pVarD5, ↓pVarD6, ↓pVarD7, ↓pkVarV0, ↓pkVarV1, ↓pkVarV2, ↓pkVarV3, ↓pkVarV4, ↓pkVarV5, ↓pkVarV6, ↓pkVarV7, ↓pkVarO0, ↓pkVarO1, ↓pkVarO2, ↓pkVarO3, ↓pkVarO4, ↓pkVarO5, ↓pkVarO6, ↓pkVarO7, ↓kSetN0, ↓kSetN1, ↓kSetN2, ↓kSetN3, ↓kSetN4, ↓kSetN5, ↓kSetN6, ↓kSetN7, ↓kSetO_N0, ↓kSetO_N1, ↓kSetO_N2, ↓kSetO_N3, ↓kSetO_N4, ↓kSetO_N5, ↓kSetO_N6, ↓kSetO_N7, ↓pgNameN0, ↓pgNameN1, ↓pgNameN2, ↓pgNameN3, ↓pgNameN4, ↓pgNameN5, ↓pgNameN6, ↓pgNameN7, ↓ixS0, ↓ixS1, ↓ixS2, ↓ixS3, ↓ixS4, ↓ixS5, ↓ixS6, ↓ixS7, ↓lenS0, ↓lenS1, ↓lenS2, ↓lenS3, ↓lenS4, ↓lenS5, ↓lenS6, ↓lenS7, ↓setS0, ↓setS1, ↓setS2, ↓setS3, ↓setS4, ↓setS5, ↓setS6, ↓setS7, ↓conS0, ↓conS1, ↓conS2, ↓conS3, ↓conS4, ↓conS5, ↓conS6, ↓conS7, ↓putS0, ↓putS1, ↓putS2, ↓putS3, ↓putS4, ↓putS5, ↓putS6, ↓putS7]
        exact last _ _ _ rfl rfl
    | _ =>
      try simp only [encS, g1, ↓pC, ↓pOp, ↓pUn, ↓pSl, ↓pPart, ↓pNil, ↓pCons, ↓pTup, ↓pLst, ↓pCallB, ↓pTest, ↓pNot, ↓pAnd, ↓pOr, ↓pAndV, ↓pOrV, ↓pNotV, ↓pIf, ↓pNext, ↓pSeq, ↓pBreak, ↓pCont, ↓pDrop, ↓pRet, ↓pRetN, ↓pIfS, ↓pgNil, ↓pgCons, ↓pgTup, ↓pAsg, ↓pRaise, ↓pCall, ↓pIter, ↓pFor, ↓pLc, ↓pYes, ↓pkOf, ↓pIxK, ↓pTabG, ↓pLenK, ↓pChain, ↓pStore, ↓pAppend, ↓pPop, ↓poLst, ↓poDct, ↓pNewW, ↓pRng1, ↓pRng2, ↓pTry, ↓pTryAs, ↓oEq, ↓oNe, ↓oLen, ↓oSum, ↓oAll, ↓oAny, ↓oIsi, start0, List.map_cons, List.map_nil, List.length_cons, List.length_nil, List.cons_append, List.nil_append, List.getElem?_cons_zero, List.getElem?_cons_succ, List.set_cons_zero, List.set_cons_succ, List.replicate, D.bl.injEq, D.int.injEq, D.str.injEq, D.tup.injEq, D.lst.injEq, exists_eq_left', exists_eq_left, Option.some.injEq, Bool.false_eq_true, if_true, if_false, true_and, and_true, false_and, and_false, isi_int, isi_bool, isi_str, isi_tuple, isi_list, isiT_int, isiT_bool, isiT_str, isiT_tuple, isiT_list, Bool.not_true, Bool.not_false, dat_non, dat_bl, dat_int, dat_str, dat_tup, dat_lst, isInt_non, isInt_bl, isInt_int, isInt_str, isInt_tup, isInt_lst, isBool_non, isBool_bl, isBool_int, isBool_str, isBool_tup, isBool_lst, isStr_non, isStr_bl, isStr_int, isStr_str, isStr_tup, isStr_lst, isTup_non, isTup_bl, isTup_int, isTup_str, isTup_tup, isTup_lst, isLst_non, isLst_bl, isLst_int, isLst_str, isLst_tup, isLst_lst, Nat.reduceAdd, Nat.zero_add, sz_0, sz_1, sz_2, sz_3, sz_4, sz_5, sz_6, sz_7, sz_8, sz_9, sz_10, sz_11, sz_12, List.any_cons, List.any_nil, eqD_tup, eqD_str, eqD_int, eqDs_cons, eqDs_nil, eqDs_cn, eqDs_nc, Bool.or_false, Bool.and_true, at0, at1, at2, at3, at4, good_int, good_bl, good_nil, good_nilL, good_non, eqDs_nil_r, eqDs_nil_l, List.isEmpty_nil, List.isEmpty_cons, Bool.and_false, Bool.or_true, Bool.false_or, Bool.true_or, Bool.false_and, Bool.true_and, encB, wipS_mk, List.foldr_cons, List.foldr_nil, con_updW, ↓ixC_ownD, ↓oIx_tup, ↓oIx_lst, ↓oIx_str, ↓lenC_ownL, ↓lenC_ownD, ↓setC_ownD, putC_adr, Own_lst_inj, Con_own_inj, updW_upd, Nat.reduceSub, Nat.sub_self, ↓itD_lst, ↓itD_tup, ↓oInt_i, ↓oCmp_i, ↓oAdd_i, ↓oAdd_s, ↓oAdd_t, ↓oAdd_l, ↓oNeg_i, ↓o1I_i, ↓o2I_i, ↓oSl_t, ↓oSl_l, ↓oList_t, ↓oList_l, ↓oTuple_t, ↓oTuple_l, ↓oIn_t, ↓oIn_l, ↓oIsN_n, ↓ixC_ownLi, ↓setC_ownLi, ixN20, ixN21, ex_int1, ex_int2, ↓pSet_eq, ↓ixK_tup, ↓ixK_lst, ↓ixK_str, ↓ixK_dct, ↓lenK_tup, ↓lenK_lst, ↓lenK_str, ↓pSetO_eq, ↓pPar_eq, ↓kPar_mk, ↓pVarV0, ↓pVarV1, ↓pVarV2, ↓pVarV3, ↓pVarV4, ↓pVarV5, ↓pVarV6, ↓pVarV7, ↓pVarL0, ↓pVarL1, ↓pVarL2, ↓pVarL3, ↓pVarL4, ↓pVarL5, ↓pVarL6, ↓pVarL7, ↓pVarD0, ↓pVarD1, ↓pVarD2, ↓pVarD3, ↓pVarD4, ↓pVarD5, ↓pVarD6, ↓pVarD7, ↓pkVarV0, ↓pkVarV1, ↓pkVarV2, ↓pkVarV3, ↓pkVarV4, ↓pkVarV5, ↓pkVarV6, ↓pkVarV7, ↓pkVarO0, ↓pkVarO1, ↓pkVarO2, ↓pkVarO3, ↓pkVarO4, ↓pkVarO5, ↓pkVarO6, ↓pkVarO7, ↓kSetN0, ↓kSetN1, ↓kSetN2, ↓kSetN3, ↓kSetN4, ↓kSetN5, ↓kSetN6, ↓kSetN7, ↓kSetO_N0, ↓kSetO_N1, ↓kSetO_N2, ↓kSetO_N3, ↓kSetO_N4, ↓kSetO_N5, ↓kSetO_N6, ↓kSetO_N7, ↓pgNameN0, ↓pgNameN1, ↓pgNameN2, ↓pgNameN3, ↓pgNameN4, ↓pgNameN5, ↓pgNameN6, ↓pgNameN7, ↓ixS0, ↓ixS1, ↓ixS2, ↓ixS3, ↓ixS4, ↓ixS5, ↓ixS6, ↓ixS7, ↓lenS0, ↓lenS1, ↓lenS2, ↓lenS3, ↓lenS4, ↓lenS5, ↓lenS6, ↓lenS7, ↓setS0, ↓setS1, ↓setS2, ↓setS3, ↓setS4, ↓setS5, ↓setS6, ↓setS7, ↓conS0, ↓conS1, ↓conS2, ↓conS3, ↓conS4, ↓conS5, ↓conS6, ↓conS7, ↓putS0, ↓putS1, ↓putS2, ↓putS3, ↓putS4, ↓putS5, ↓putS6, ↓putS7]
      exact ⟨by decide +kernel, ite2 (fun c => absurd c (by decide +kernel)) (fun _ => last _ _ _ rfl rfl)⟩
abbrev s__law_less : Stmt := topS 36
abbrev N__law_less : List Str := ["loop", "number"]
theorem sc__law_less : FnScope N__law_less ["loop", "number"] (defScope s__law_less) := ⟨rfl, rfl, rfl, by decide +kernel, rfl, by decide +kernel, by decide +kernel⟩
theorem ok__law_less  {k : Nat}  (T : TopD K mg "_law_less" ["loop", "number"] s__law_less) (c__law_cut : CallF P w K mg base "_law_cut" 3 k (φ__law_cut 3))  :
    CallF P w K mg base "_law_less" 2 (k + 1) (φ__law_less) := by
  refine call_of (N := N__law_less) (k := k) T sc__law_less fun f cdv A outer s H E hr => ⟨_, (pmss_one (pms_ret (pm_op od_add (pm_slice sld (pm_var (pv 0)) (.inl ⟨rfl, rfl⟩) (.inr ⟨_, _, rfl, rfl, pm_int⟩)) (pm_tup (pma_cons (pm_callF c__law_cut hr (by rfl) (pma_cons (pm_ixK (Room.hu1 hr) (pk_var (pv 0)) pm_int (fun _ _ => rfl)) (pma_cons pm_int (pma_cons (pm_var (pv 1)) pma_nil)))) pma_nil))))), ?_⟩
  rintro ds Wo Q E' - ⟨L, n, rfl, hL, q⟩
  have hB := (okL_iff.mp hL).2.1
  try simp only [encL, ↓pC, ↓pOp, ↓pUn, ↓pSl, ↓pPart, ↓pNil, ↓pCons, ↓pTup, ↓pLst, ↓pCallB, ↓pTest, ↓pNot, ↓pAnd, ↓pOr, ↓pAndV, ↓pOrV, ↓pNotV, ↓pIf, ↓pNext, ↓pSeq, ↓pBreak, ↓pCont, ↓pDrop, ↓pRet, ↓pRetN, ↓pIfS, ↓pgNil, ↓pgCons, ↓pgTup, ↓pAsg, ↓pRaise, ↓pCall, ↓pIter, ↓pFor, ↓pLc, ↓pYes, ↓pkOf, ↓pIxK, ↓pTabG, ↓pLenK, ↓pChain, ↓pStore, ↓pAppend, ↓pPop, ↓poLst, ↓poDct, ↓pNewW, ↓pRng1, ↓pRng2, ↓pTry, ↓pTryAs, ↓oEq, ↓oNe, ↓oLen, ↓oSum, ↓oAll, ↓oAny, ↓oIsi, start0, List.map_cons, List.map_nil, List.length_cons, List.length_nil, List.cons_append, List.nil_append, List.getElem?_cons_zero, List.getElem?_cons_succ, List.set_cons_zero, List.set_cons_succ, List.replicate, D.bl.injEq, D.int.injEq, D.str.injEq, D.tup.injEq, D.lst.injEq, exists_eq_left', exists_eq_left, Option.some.injEq, Bool.false_eq_true, if_true, if_false, true_and, and_true, false_and, and_false, isi_int, isi_bool, isi_str, isi_tuple, isi_list, isiT_int, isiT_bool, isiT_str, isiT_tuple, isiT_list, Bool.not_true, Bool.not_false, dat_non, dat_bl, dat_int, dat_str, dat_tup, dat_lst, isInt_non, isInt_bl, isInt_int, isInt_str, isInt_tup, isInt_lst, isBool_non, isBool_bl, isBool_int, isBool_str, isBool_tup, isBool_lst, isStr_non, isStr_bl, isStr_int, isStr_str, isStr_tup, isStr_lst, isTup_non, isTup_bl, isTup_int, isTup_str, isTup_tup, isTup_lst, isLst_non, isLst_bl, isLst_int, isLst_str, isLst_tup, isLst_lst, Nat.reduceAdd, Nat.zero_add, sz_0, sz_1, sz_2, sz_3, sz_4, sz_5, sz_6, sz_7, sz_8, sz_9, sz_10, sz_11, sz_12, List.any_cons, List.any_nil, eqD_tup, eqD_str, eqD_int, eqDs_cons, eqDs_nil, eqDs_cn, eqDs_nc, Bool.or_false, Bool.and_true, at0, at1, at2, at3, at4, good_int, good_bl, good_nil, good_nilL, good_non, eqDs_nil_r, eqDs_nil_l, List.isEmpty_nil, List.isEmpty_cons, Bool.and_false, Bool.or_true, Bool.false_or, Bool.true_or, Bool.false_and, Bool.true_and, encB, wipS_mk, List.foldr_cons, List.foldr_nil, con_updW, ↓ixC_ownD, ↓oIx_tup, ↓oIx_lst, ↓oIx_str, ↓lenC_ownL, ↓lenC_ownD, ↓setC_ownD, putC_adr, Own_lst_inj, Con_own_inj, updW_upd, Nat.reduceSub, Nat.sub_self, ↓itD_lst, ↓itD_tup, ↓oInt_i, ↓oCmp_i, ↓oAdd_i, ↓oAdd_s, ↓oAdd_t, ↓oAdd_l, ↓oNeg_i, ↓o1I_i, ↓o2I_i, ↓oSl_t, ↓oSl_l, ↓oList_t, ↓oList_l, ↓oTuple_t, ↓oTuple_l, ↓oIn_t, ↓oIn_l, ↓oIsN_n, ↓ixC_ownLi, ↓setC_ownLi, ixN20, ixN21, ex_int1, ex_int2, ↓pSet_eq, ↓ixK_tup, ↓ixK_lst, ↓ixK_str, ↓ixK_dct, ↓lenK_tup, ↓lenK_lst, ↓lenK_str, ↓pSetO_eq, ↓pPar_eq, ↓kPar_mk, ↓pVarV0, ↓pVarV1, ↓pVarL0, ↓pVarL1, ↓pVarD0, ↓pVarD1, ↓pkVarV0, ↓pkVarV1, ↓pkVarO0, ↓pkVarO1, ↓kSetN0, ↓kSetN1, ↓kSetO_N0, ↓kSetO_N1, ↓pgNameN0, ↓pgNameN1, ↓ixS0, ↓ixS1, ↓lenS0, ↓lenS1, ↓setS0, ↓setS1, ↓conS0, ↓conS1, ↓putS0, ↓putS1]
  rw [show (3 : Int) = ((3 : Nat) : Int) from rfl, cut_to _ _ (by simp)]
  refine ⟨L.body, 0, n, rfl, hB, ?_⟩
  try simp only [↓pC, ↓pOp, ↓pUn, ↓pSl, ↓pPart, ↓pNil, ↓pCons, ↓pTup, ↓pLst, ↓pCallB, ↓pTest, ↓pNot, ↓pAnd, ↓pOr, ↓pAndV, ↓pOrV, ↓pNotV, ↓pIf, ↓pNext, ↓pSeq, ↓pBreak, ↓pCont, ↓pDrop, ↓pRet, ↓pRetN, ↓pIfS, ↓pgNil, ↓pgCons, ↓pgTup, ↓pAsg, ↓pRaise, ↓pCall, ↓pIter, ↓pFor, ↓pLc, ↓pYes, ↓pkOf, ↓pIxK, ↓pTabG, ↓pLenK, ↓pChain, ↓pStore, ↓pAppend, ↓pPop, ↓poLst, ↓poDct, ↓pNewW, ↓pRng1, ↓pRng2, ↓pTry, ↓pTryAs, ↓oEq, ↓oNe, ↓oLen, ↓oSum, ↓oAll, ↓oAny, ↓oIsi, start0, List.map_cons, List.map_nil, List.length_cons, List.length_nil, List.cons_append, List.nil_append, List.getElem?_cons_zero, List.getElem?_cons_succ, List.set_cons_zero, List.set_cons_succ, List.replicate, D.bl.injEq, D.int.injEq, D.str.injEq, D.tup.injEq, D.lst.injEq, exists_eq_left', exists_eq_left, Option.some.injEq, Bool.false_eq_true, if_true, if_false, true_and, and_true, false_and, and_false, isi_int, isi_bool, isi_str, isi_tuple, isi_list, isiT_int, isiT_bool, isiT_str, isiT_tuple, isiT_list, Bool.not_true, Bool.not_false, dat_non, dat_bl, dat_int, dat_str, dat_tup, dat_lst, isInt_non, isInt_bl, isInt_int, isInt_str, isInt_tup, isInt_lst, isBool_non, isBool_bl, isBool_int, isBool_str, isBool_tup, isBool_lst, isStr_non, isStr_bl, isStr_int, isStr_str, isStr_tup, isStr_lst, isTup_non, isTup_bl, isTup_int, isTup_str, isTup_tup, isTup_lst, isLst_non, isLst_bl, isLst_int, isLst_str, isLst_tup, isLst_lst, Nat.reduceAdd, Nat.zero_add, sz_0, sz_1, sz_2, sz_3, sz_4, sz_5, sz_6, sz_7, sz_8, sz_9, sz_10, sz_11, sz_12, List.any_cons, List.any_nil, eqD_tup, eqD_str, eqD_int, eqDs_cons, eqDs_nil, eqDs_cn, eqDs_nc, Bool.or_false, Bool.and_true, at0, at1, at2, at3, at4, good_int, good_bl, good_nil, good_nilL, good_non, eqDs_nil_r, eqDs_nil_l, List.isEmpty_nil, List.isEmpty_cons, Bool.and_false, Bool.or_true, Bool.false_or, Bool.true_or, Bool.false_and, Bool.true_and, encB, wipS_mk, List.foldr_cons, List.foldr_nil, con_updW, ↓ixC_ownD, ↓oIx_tup, ↓oIx_lst, ↓oIx_str, ↓lenC_ownL, ↓lenC_ownD, ↓setC_ownD, putC_adr, Own_lst_inj, Con_own_inj, updW_upd, Nat.reduceSub, Nat.sub_self, ↓itD_lst, ↓itD_tup, ↓oInt_i, ↓oCmp_i, ↓oAdd_i, ↓oAdd_s, ↓oAdd_t, ↓oAdd_l, ↓oNeg_i, ↓o1I_i, ↓o2I_i, ↓oSl_t, ↓oSl_l, ↓oList_t, ↓oList_l, ↓oTuple_t, ↓oTuple_l, ↓oIn_t, ↓oIn_l, ↓oIsN_n, ↓ixC_ownLi, ↓setC_ownLi, ixN20, ixN21, ex_int1, ex_int2, ↓pSet_eq, ↓ixK_tup, ↓ixK_lst, ↓ixK_str, ↓ixK_dct, ↓lenK_tup, ↓lenK_lst, ↓lenK_str, ↓pSetO_eq, ↓pPar_eq, ↓kPar_mk, ↓pVarV0, ↓pVarV1, ↓pVarL0, ↓pVarL1, ↓pVarD0, ↓pVarD1, ↓pkVarV0, ↓pkVarV1, ↓pkVarO0, ↓pkVarO1, ↓kSetN0, ↓kSetN1, ↓kSetO_N0, ↓kSetO_N1, ↓pgNameN0, ↓pgNameN1, ↓ixS0, ↓ixS1, ↓lenS0, ↓lenS1, ↓setS0, ↓setS1, ↓conS0, ↓conS1, ↓putS0, ↓putS1]
  exact ⟨by show _ ≤ 2 ^ 24; simp, q⟩
abbrev s__law_refused : Stmt := topS 37
abbrev N__law_refused : List Str := ["loop", "number", "e"]
theorem sc__law_refused : FnScope N__law_refused ["loop", "number"] (defScope s__law_refused) := ⟨rfl, rfl, rfl, by decide +kernel, rfl, by decide +kernel, by decide +kernel⟩
theorem ok__law_refused {C_InvalidLoop : Addr} {k : Nat} {C_InvalidNumber : Addr} {C_PaceError : Addr} (T : TopD K mg "_law_refused" ["loop", "number"] s__law_refused) (x_InvalidNumber : ExC K mg "InvalidNumber" C_InvalidNumber) (c_without : CallF P w K mg base "without" 2 k (φ_without C_InvalidLoop C_InvalidNumber)) (m_isinstance : mg "isinstance" = none) (x_PaceError : ExC K mg "PaceError" C_PaceError) (ec : ExcC K C_InvalidNumber) (ek : PySem.W.kitOne K (.ref C_InvalidNumber) (.ref C_PaceError) = some true) (em : PySem.W.exmOne K (.ref C_InvalidNumber) (.ref C_InvalidNumber) = some true) :
    CallF P w K mg base "_law_refused" 2 (k + 1) (φ__law_refused) := by
  refine call_of (N := N__law_refused) (k := k) T sc__law_refused fun f cdv A outer s H E hr => ⟨_, (pmss_cons (pms_tryAs (i := 2) rfl rfl sc__law_refused.nd rfl rfl ⟨rfl, rfl, .inl x_InvalidNumber.gP⟩ (fun _ _ h => h) (fun pn xe hpo => (pmss_one (pms_expr (pm_callF c_without hr (by rfl) (pma_cons (pm_var (pv 0)) (pma_cons (pm_var (pv 1)) pma_nil)))))) (fun a oe d pn x hz hf hl => (pmss_one (pms_ret (pm_callB (cd_isE hz hf hl) (by rfl) m_isinstance (by decide +kernel) (pma_cons (pm_var (pv 2)) (pma_cons (pm_gr x_PaceError.gP (by rfl)) pma_nil)))))))
      (pmss_one (pms_ret pm_bl))), ?_⟩
  rintro ds Wo Q E' - ⟨L, v, rfl, hL, hv, hn, q⟩
  try simp only [↓pC, ↓pOp, ↓pUn, ↓pSl, ↓pPart, ↓pNil, ↓pCons, ↓pTup, ↓pLst, ↓pCallB, ↓pTest, ↓pNot, ↓pAnd, ↓pOr, ↓pAndV, ↓pOrV, ↓pNotV, ↓pIf, ↓pNext, ↓pSeq, ↓pBreak, ↓pCont, ↓pDrop, ↓pRet, ↓pRetN, ↓pIfS, ↓pgNil, ↓pgCons, ↓pgTup, ↓pAsg, ↓pRaise, ↓pCall, ↓pIter, ↓pFor, ↓pLc, ↓pYes, ↓pkOf, ↓pIxK, ↓pTabG, ↓pLenK, ↓pChain, ↓pStore, ↓pAppend, ↓pPop, ↓poLst, ↓poDct, ↓pNewW, ↓pRng1, ↓pRng2, ↓pTry, ↓pTryAs, ↓oEq, ↓oNe, ↓oLen, ↓oSum, ↓oAll, ↓oAny, ↓oIsi, start0, List.map_cons, List.map_nil, List.length_cons, List.length_nil, List.cons_append, List.nil_append, List.getElem?_cons_zero, List.getElem?_cons_succ, List.set_cons_zero, List.set_cons_succ, List.replicate, D.bl.injEq, D.int.injEq, D.str.injEq, D.tup.injEq, D.lst.injEq, exists_eq_left', exists_eq_left, Option.some.injEq, Bool.false_eq_true, if_true, if_false, true_and, and_true, false_and, and_false, isi_int, isi_bool, isi_str, isi_tuple, isi_list, isiT_int, isiT_bool, isiT_str, isiT_tuple, isiT_list, Bool.not_true, Bool.not_false, dat_non, dat_bl, dat_int, dat_str, dat_tup, dat_lst, isInt_non, isInt_bl, isInt_int, isInt_str, isInt_tup, isInt_lst, isBool_non, isBool_bl, isBool_int, isBool_str, isBool_tup, isBool_lst, isStr_non, isStr_bl, isStr_int, isStr_str, isStr_tup, isStr_lst, isTup_non, isTup_bl, isTup_int, isTup_str, isTup_tup, isTup_lst, isLst_non, isLst_bl, isLst_int, isLst_str, isLst_tup, isLst_lst, Nat.reduceAdd, Nat.zero_add, sz_0, sz_1, sz_2, sz_3, sz_4, sz_5, sz_6, sz_7, sz_8, sz_9, sz_10, sz_11, sz_12, List.any_cons, List.any_nil, eqD_tup, eqD_str, eqD_int, eqDs_cons, eqDs_nil, eqDs_cn, eqDs_nc, Bool.or_false, Bool.and_true, at0, at1, at2, at3, at4, good_int, good_bl, good_nil, good_nilL, good_non, eqDs_nil_r, eqDs_nil_l, List.isEmpty_nil, List.isEmpty_cons, Bool.and_false, Bool.or_true, Bool.false_or, Bool.true_or, Bool.false_and, Bool.true_and, encB, wipS_mk, List.foldr_cons, List.foldr_nil, con_updW, ↓ixC_ownD, ↓oIx_tup, ↓oIx_lst, ↓oIx_str, ↓lenC_ownL, ↓lenC_ownD, ↓setC_ownD, putC_adr, Own_lst_inj, Con_own_inj, updW_upd, Nat.reduceSub, Nat.sub_self, ↓itD_lst, ↓itD_tup, ↓oInt_i, ↓oCmp_i, ↓oAdd_i, ↓oAdd_s, ↓oAdd_t, ↓oAdd_l, ↓oNeg_i, ↓o1I_i, ↓o2I_i, ↓oSl_t, ↓oSl_l, ↓oList_t, ↓oList_l, ↓oTuple_t, ↓oTuple_l, ↓oIn_t, ↓oIn_l, ↓oIsN_n, ↓ixC_ownLi, ↓setC_ownLi, ixN20, ixN21, ex_int1, ex_int2, ↓pSet_eq, ↓ixK_tup, ↓ixK_lst, ↓ixK_str, ↓ixK_dct, ↓lenK_tup, ↓lenK_lst, ↓lenK_str, ↓pSetO_eq, ↓pPar_eq, ↓kPar_mk, ↓pVarV0, ↓pVarV1, ↓pVarV2, ↓pVarL0, ↓pVarL1, ↓pVarL2, ↓pVarD0, ↓pVarD1, ↓pVarD2, ↓pkVarV0, ↓pkVarV1, ↓pkVarV2, ↓pkVarO0, ↓pkVarO1, ↓pkVarO2, ↓kSetN0, ↓kSetN1, ↓kSetN2, ↓kSetO_N0, ↓kSetO_N1, ↓kSetO_N2, ↓pgNameN0, ↓pgNameN1, ↓pgNameN2, ↓ixS0, ↓ixS1, ↓ixS2, ↓lenS0, ↓lenS1, ↓lenS2, ↓setS0, ↓setS1, ↓setS2, ↓conS0, ↓conS1, ↓conS2, ↓putS0, ↓putS1, ↓putS2]
  refine ⟨encL L, v, rfl, good_L hL, hv, fun h => ?_, fun _ => ⟨L, hL, rfl, fun _ => ?_, fun k hk hin => ?_⟩⟩
  · rw [isLoop_iff.mpr ⟨L, hL, rfl⟩] at h; cases h
  · refine ⟨true, em, fun _ a => ?_, fun h => by cases h⟩
    try simp only [↓pC, ↓pOp, ↓pUn, ↓pSl, ↓pPart, ↓pNil, ↓pCons, ↓pTup, ↓pLst, ↓pCallB, ↓pTest, ↓pNot, ↓pAnd, ↓pOr, ↓pAndV, ↓pOrV, ↓pNotV, ↓pIf, ↓pNext, ↓pSeq, ↓pBreak, ↓pCont, ↓pDrop, ↓pRet, ↓pRetN, ↓pIfS, ↓pgNil, ↓pgCons, ↓pgTup, ↓pAsg, ↓pRaise, ↓pCall, ↓pIter, ↓pFor, ↓pLc, ↓pYes, ↓pkOf, ↓pIxK, ↓pTabG, ↓pLenK, ↓pChain, ↓pStore, ↓pAppend, ↓pPop, ↓poLst, ↓poDct, ↓pNewW, ↓pRng1, ↓pRng2, ↓pTry, ↓pTryAs, ↓oEq, ↓oNe, ↓oLen, ↓oSum, ↓oAll, ↓oAny, ↓oIsi, start0, List.map_cons, List.map_nil, List.length_cons, List.length_nil, List.cons_append, List.nil_append, List.getElem?_cons_zero, List.getElem?_cons_succ, List.set_cons_zero, List.set_cons_succ, List.replicate, D.bl.injEq, D.int.injEq, D.str.injEq, D.tup.injEq, D.lst.injEq, exists_eq_left', exists_eq_left, Option.some.injEq, Bool.false_eq_true, if_true, if_false, true_and, and_true, false_and, and_false, isi_int, isi_bool, isi_str, isi_tuple, isi_list, isiT_int, isiT_bool, isiT_str, isiT_tuple, isiT_list, Bool.not_true, Bool.not_false, dat_non, dat_bl, dat_int, dat_str, dat_tup, dat_lst, isInt_non, isInt_bl, isInt_int, isInt_str, isInt_tup, isInt_lst, isBool_non, isBool_bl, isBool_int, isBool_str, isBool_tup, isBool_lst, isStr_non, isStr_bl, isStr_int, isStr_str, isStr_tup, isStr_lst, isTup_non, isTup_bl, isTup_int, isTup_str, isTup_tup, isTup_lst, isLst_non, isLst_bl, isLst_int, isLst_str, isLst_tup, isLst_lst, Nat.reduceAdd, Nat.zero_add, sz_0, sz_1, sz_2, sz_3, sz_4, sz_5, sz_6, sz_7, sz_8, sz_9, sz_10, sz_11, sz_12, List.any_cons, List.any_nil, eqD_tup, eqD_str, eqD_int, eqDs_cons, eqDs_nil, eqDs_cn, eqDs_nc, Bool.or_false, Bool.and_true, at0, at1, at2, at3, at4, good_int, good_bl, good_nil, good_nilL, good_non, eqDs_nil_r, eqDs_nil_l, List.isEmpty_nil, List.isEmpty_cons, Bool.and_false, Bool.or_true, Bool.false_or, Bool.true_or, Bool.false_and, Bool.true_and, encB, wipS_mk, List.foldr_cons, List.foldr_nil, con_updW, ↓ixC_ownD, ↓oIx_tup, ↓oIx_lst, ↓oIx_str, ↓lenC_ownL, ↓lenC_ownD, ↓setC_ownD, putC_adr, Own_lst_inj, Con_own_inj, updW_upd, Nat.reduceSub, Nat.sub_self, ↓itD_lst, ↓itD_tup, ↓oInt_i, ↓oCmp_i, ↓oAdd_i, ↓oAdd_s, ↓oAdd_t, ↓oAdd_l, ↓oNeg_i, ↓o1I_i, ↓o2I_i, ↓oSl_t, ↓oSl_l, ↓oList_t, ↓oList_l, ↓oTuple_t, ↓oTuple_l, ↓oIn_t, ↓oIn_l, ↓oIsN_n, ↓ixC_ownLi, ↓setC_ownLi, ixN20, ixN21, ex_int1, ex_int2, ↓pSet_eq, ↓ixK_tup, ↓ixK_lst, ↓ixK_str, ↓ixK_dct, ↓lenK_tup, ↓lenK_lst, ↓lenK_str, ↓pSetO_eq, ↓pPar_eq, ↓kPar_mk, ↓pVarV0, ↓pVarV1, ↓pVarV2, ↓pVarL0, ↓pVarL1, ↓pVarL2, ↓pVarD0, ↓pVarD1, ↓pVarD2, ↓pkVarV0, ↓pkVarV1, ↓pkVarV2, ↓pkVarO0, ↓pkVarO1, ↓pkVarO2, ↓kSetN0, ↓kSetN1, ↓kSetN2, ↓kSetO_N0, ↓kSetO_N1, ↓kSetO_N2, ↓pgNameN0, ↓pgNameN1, ↓pgNameN2, ↓ixS0, ↓ixS1, ↓ixS2, ↓lenS0, ↓lenS1, ↓lenS2, ↓setS0, ↓setS1, ↓setS2, ↓conS0, ↓conS1, ↓conS2, ↓putS0, ↓putS1, ↓putS2]
    exact ⟨_, _, true, rfl, rfl, ec, ek, q⟩
  · subst hk
    rw [isNum_iff.mpr ⟨k, hin, rfl⟩] at hn
    cases hn
abbrev s_law : Stmt := topS 38
abbrev N_law : List Str := ["script", "k", "source", "turn", "loop", "many", "number", "told", "odd", "one", "bodies"]
theorem sc_law : FnScope N_law ["script"] (defScope s_law) := ⟨rfl, rfl, rfl, by decide +kernel, rfl, by decide +kernel, by decide +kernel⟩
theorem ok_law {C_InvalidLoop C_InvalidNumber : Addr} {k : Nat}  {f : Addr} {fd : FuncData} (F : Fun K "law" "law" s_law f fd) (m_range : mg "range" = none) (c_without : CallF P w K mg base "without" 2 k (φ_without C_InvalidLoop C_InvalidNumber)) (m_min : mg "min" = none) (m_len : mg "len" = none) (c__law_refused : CallF P w K mg base "_law_refused" 2 k (φ__law_refused)) (c_statements : CallF P w K mg base "statements" 1 k (φ_statements C_InvalidLoop)) (c_is_loop : CallF P w K mg base "is_loop" 1 k (φ_is_loop)) (c__law_less : CallF P w K mg base "_law_less" 2 k (φ__law_less)) (c__law_size : CallF P w K mg base "_law_size" 1 k (φ__law_size 3)) (c__law_loop : CallF P w K mg base "_law_loop" 1 k (φ__law_loop)) (c__law_source : CallF P w K mg base "_law_source" 2 k (φ__law_source))  :
    FnOk P w K mg base (L2.CX P w) (k + 1) f fd ["script"] (spP K 1 (φ_law)) := by
  refine ok_of (N := N_law) (k := k) F sc_law fun cdv A outer s H E hr => ⟨_, (pmss_cons (pms_for (passes_of rfl) rfl (pmi_range1 (by rfl) m_range (pma_cons (pm_op od_add pm_int (pm_callB (cd_min2 rfl) (by rfl) m_min (by decide +kernel) (pma_cons (pm_lenK (by rfl) m_len (pk_var (pv 0))) (pma_cons pm_int pma_nil)))) pma_nil)) (pmg_of (vs := [1]) (pg_name (i := 1) sc_law.nd rfl (.inl rfl)))
      (pmss_cons (pms_set (i := 2) (fun W t => ps_set (i := 2) sc_law.nd rfl (.inl rfl) ((pm_callF c__law_source hr (by rfl) (pma_cons (pm_var (pv 0)) (pma_cons (pm_var (pv 1)) pma_nil))) W t)))
      (pmss_one (pms_for (passes_of rfl) rfl (pmi_range1 (by rfl) m_range (pma_cons pm_int pma_nil)) (pmg_of (vs := [3]) (pg_name (i := 3) sc_law.nd rfl (.inl rfl)))
      (pmss_cons (pms_set (i := 4) (fun W t => ps_set (i := 4) sc_law.nd rfl (.inl rfl) ((pm_callF c__law_loop hr (by rfl) (pma_cons (pm_var (pv 2)) pma_nil)) W t)))
      (pmss_cons (pms_set (i := 5) (fun W t => ps_set (i := 5) sc_law.nd rfl (.inl rfl) ((pm_callF c__law_size hr (by rfl) (pma_cons (pm_ixK (Room.hu1 hr) (pk_var (pv 4)) pm_int (fun _ _ => rfl)) pma_nil)) W t)))
      (pmss_cons (pms_for (passes_of rfl) rfl (pmi_range1 (by rfl) m_range (pma_cons (pm_var (pv 5)) pma_nil)) (pmg_of (vs := [6]) (pg_name (i := 6) sc_law.nd rfl (.inl rfl)))
      (pmss_cons (pms_set (i := 7) (fun W t => ps_set (i := 7) sc_law.nd rfl (.inl rfl) ((pm_callF c_without hr (by rfl) (pma_cons (pm_var (pv 4)) (pma_cons (pm_var (pv 6)) pma_nil))) W t)))
      (pmss_one (pms_if (pmt_w (pmw_or (pmt_cmp (od_ne (Room.hu64 hr)) (pm_var (pv 7)) (pm_callF c__law_less hr (by rfl) (pma_cons (pm_var (pv 4)) (pma_cons (pm_var (pv 6)) pma_nil))) (nomark _)) (pmw_or (pmt_not (pmt_val (pm_callF c_is_loop hr (by rfl) (pma_cons (pm_var (pv 7)) pma_nil)))) (pmw_or1 (pmt_cmp od_ge (pm_lenK (by rfl) m_len (pk_of (pm_callF c_statements hr (by rfl) (pma_cons (pm_var (pv 7)) pma_nil)))) (pm_var (pv 5)) (nomark _)))))) (pmss_one (pms_ret pm_bl)) pmss_nil))))
      (pmss_one (pms_for (passes_of rfl) rfl (pmi_seq (pm_lst (pma_cons (pm_un ud_neg pm_int) (pma_cons (pm_var (pv 5)) (pma_cons pm_int (pma_cons pm_non (pma_cons pm_bl (pma_cons pm_str (pma_cons (pm_tup (pma_cons pm_int pma_nil)) pma_nil))))))))) (pmg_of (vs := [8]) (pg_name (i := 8) sc_law.nd rfl (.inl rfl)))
      (pmss_one (pms_if (pmt_not (pmt_val (pm_callF c__law_refused hr (by rfl) (pma_cons (pm_var (pv 4)) (pma_cons (pm_var (pv 8)) pma_nil))))) (pmss_one (pms_ret pm_bl)) pmss_nil)))))))))))
      (pmss_cons (pms_set (i := 9) (fun W t => ps_set (i := 9) sc_law.nd rfl (.inr rfl) ((pm_tup (pma_cons pm_int (pma_cons pm_int (pma_cons pm_int (pma_cons (pm_tup (pma_cons (pm_tup (pma_cons pm_str (pma_cons (pm_tup (pma_cons pm_str pma_nil)) (pma_cons (pm_tup (pma_cons (pm_tup (pma_cons pm_str pma_nil)) pma_nil)) (pma_cons (pm_tup (pma_cons (pm_tup (pma_cons pm_str pma_nil)) (pma_cons (pm_tup (pma_cons pm_str (pma_cons pm_int pma_nil))) pma_nil))) pma_nil))))) (pma_cons (pm_tup (pma_cons pm_str pma_nil)) pma_nil))) pma_nil))))) W t)))
      (pmss_cons (pms_setLc (own := [("number", 6)]) (i := 10) rfl sc_law.nd rfl rfl (sw_true rfl rfl rfl (by decide +kernel)) (pmi_range1 (by rfl) m_range (pma_cons pm_int pma_nil)) (blkOk_by (own := [("number", 6)]) (N := N_law) (sc := defScope s_law) (by decide +kernel)) (fun _ _ _ _ _ => (pmg_of (vs := [6]) (pg_name (i := 6) sc_law.nd rfl (.inl rfl)))) (fun _ _ _ _ _ => pmts_nil) (fun _ _ _ _ _ => (pm_ixK (Room.hu1 hr) (pk_of (pm_callF c_without hr (by rfl) (pma_cons (pm_var (pv 9)) (pma_cons (pm_var (pv 6)) pma_nil)))) pm_int (fun _ _ => rfl))))
      (pmss_cons (pms_if (pmt_w (pmw_or (pmt_cmp (od_ne (Room.hu64 hr)) (pm_ixK (Room.hu1 hr) (pk_var (pv 10)) pm_int (fun _ _ => rfl)) (pm_tup (pma_cons (pm_tup (pma_cons pm_str pma_nil)) pma_nil)) (nomark _)) (pmw_or (pmt_cmp (od_ne (Room.hu64 hr)) (pm_ixK (Room.hu1 hr) (pk_var (pv 10)) pm_int (fun _ _ => rfl)) (pm_slice sld (pm_ixK (Room.hu1 hr) (pk_var (pv 9)) pm_int (fun _ _ => rfl)) (.inl ⟨rfl, rfl⟩) (.inr ⟨_, _, rfl, rfl, pm_int⟩)) (nomark _)) (pmw_or1 (pmt_cmp (od_ne (Room.hu64 hr)) (pm_ixK (Room.hu1 hr) (pk_of (pm_ixK (Room.hu1 hr) (pk_of (pm_ixK (Room.hu1 hr) (pk_var (pv 10)) pm_int (fun _ _ => rfl))) pm_int (fun _ _ => rfl))) pm_int (fun _ _ => rfl)) (pm_tup pma_nil) (nomark _)))))) (pmss_one (pms_ret pm_bl)) pmss_nil)
      (pmss_one (pms_ret (pm_and (pm_cmp (od_eq (Room.hu64 hr)) (pm_ixK (Room.hu1 hr) (pk_of (pm_ixK (Room.hu1 hr) (pk_of (pm_ixK (Room.hu1 hr) (pk_var (pv 10)) pm_int (fun _ _ => rfl))) pm_int (fun _ _ => rfl))) pm_int (fun _ _ => rfl)) (pm_tup (pma_cons (pm_tup (pma_cons pm_str (pma_cons pm_int pma_nil))) pma_nil)) (nomark _)) (pm_one (pm_cmp (od_eq (Room.hu64 hr)) (pm_ixK (Room.hu1 hr) (pk_of (pm_ixK (Room.hu1 hr) (pk_of (pm_ixK (Room.hu1 hr) (pk_var (pv 10)) pm_int (fun _ _ => rfl))) pm_int (fun _ _ => rfl))) pm_int (fun _ _ => rfl)) (pm_tup (pma_cons (pm_tup (pma_cons pm_str pma_nil)) pma_nil)) (nomark _)))))))))), ?_⟩
  rintro ds Wo Q E' - ⟨xs, rfl, h63, q⟩
  try simp only [↓pC, ↓pOp, ↓pUn, ↓pSl, ↓pPart, ↓pNil, ↓pCons, ↓pTup, ↓pLst, ↓pCallB, ↓pTest, ↓pNot, ↓pAnd, ↓pOr, ↓pAndV, ↓pOrV, ↓pNotV, ↓pIf, ↓pNext, ↓pSeq, ↓pBreak, ↓pCont, ↓pDrop, ↓pRet, ↓pRetN, ↓pIfS, ↓pgNil, ↓pgCons, ↓pgTup, ↓pAsg, ↓pRaise, ↓pCall, ↓pIter, ↓pFor, ↓pLc, ↓pYes, ↓pkOf, ↓pIxK, ↓pTabG, ↓pLenK, ↓pChain, ↓pStore, ↓pAppend, ↓pPop, ↓poLst, ↓poDct, ↓pNewW, ↓pRng1, ↓pRng2, ↓pTry, ↓pTryAs, ↓oEq, ↓oNe, ↓oLen, ↓oSum, ↓oAll, ↓oAny, ↓oIsi, start0, List.map_cons, List.map_nil, List.length_cons, List.length_nil, List.cons_append, List.nil_append, List.getElem?_cons_zero, List.getElem?_cons_succ, List.set_cons_zero, List.set_cons_succ, List.replicate, D.bl.injEq, D.int.injEq, D.str.injEq, D.tup.injEq, D.lst.injEq, exists_eq_left', exists_eq_left, Option.some.injEq, Bool.false_eq_true, if_true, if_false, true_and, and_true, false_and, and_false, isi_int, isi_bool, isi_str, isi_tuple, isi_list, isiT_int, isiT_bool, isiT_str, isiT_tuple, isiT_list, Bool.not_true, Bool.not_false, dat_non, dat_bl, dat_int, dat_str, dat_tup, dat_lst, isInt_non, isInt_bl, isInt_int, isInt_str, isInt_tup, isInt_lst, isBool_non, isBool_bl, isBool_int, isBool_str, isBool_tup, isBool_lst, isStr_non, isStr_bl, isStr_int, isStr_str, isStr_tup, isStr_lst, isTup_non, isTup_bl, isTup_int, isTup_str, isTup_tup, isTup_lst, isLst_non, isLst_bl, isLst_int, isLst_str, isLst_tup, isLst_lst, Nat.reduceAdd, Nat.zero_add, sz_0, sz_1, sz_2, sz_3, sz_4, sz_5, sz_6, sz_7, sz_8, sz_9, sz_10, sz_11, sz_12, List.any_cons, List.any_nil, eqD_tup, eqD_str, eqD_int, eqDs_cons, eqDs_nil, eqDs_cn, eqDs_nc, Bool.or_false, Bool.and_true, at0, at1, at2, at3, at4, good_int, good_bl, good_nil, good_nilL, good_non, eqDs_nil_r, eqDs_nil_l, List.isEmpty_nil, List.isEmpty_cons, Bool.and_false, Bool.or_true, Bool.false_or, Bool.true_or, Bool.false_and, Bool.true_and, encB, wipS_mk, List.foldr_cons, List.foldr_nil, con_updW, ↓ixC_ownD, ↓oIx_tup, ↓oIx_lst, ↓oIx_str, ↓lenC_ownL, ↓lenC_ownD, ↓setC_ownD, putC_adr, Own_lst_inj, Con_own_inj, updW_upd, Nat.reduceSub, Nat.sub_self, ↓itD_lst, ↓itD_tup, ↓oInt_i, ↓oCmp_i, ↓oAdd_i, ↓oAdd_s, ↓oAdd_t, ↓oAdd_l, ↓oNeg_i, ↓o1I_i, ↓o2I_i, ↓oSl_t, ↓oSl_l, ↓oList_t, ↓oList_l, ↓oTuple_t, ↓oTuple_l, ↓oIn_t, ↓oIn_l, ↓oIsN_n, ↓ixC_ownLi, ↓setC_ownLi, ixN20, ixN21, ex_int1, ex_int2, ↓pSet_eq, ↓ixK_tup, ↓ixK_lst, ↓ixK_str, ↓ixK_dct, ↓lenK_tup, ↓lenK_lst, ↓lenK_str, ↓pSetO_eq, ↓pPar_eq, ↓kPar_mk, ↓pVarV0, ↓pVarV1, ↓pVarV2, ↓pVarV3, ↓pVarV4, ↓pVarV5, ↓pVarV6, ↓pVarV7, ↓pVarV8, ↓pVarV9, ↓pVarV10, ↓pVarL0, ↓pVarL1, ↓pVarL2, ↓pVarL3, ↓pVarL4, ↓pVarL5, ↓pVarL6, ↓pVarL7, ↓pVarL8, ↓pVarL9, ↓pVarL10, ↓pVarD0, ↓pVarD1, ↓pVarD2, ↓pVarD3, ↓pVarD4, ↓pVarD5, ↓pVarD6, ↓pVarD7, ↓pVarD8, ↓pVarD9, ↓pVarD10, ↓pkVarV0, ↓pkVarV1, ↓pkVarV2, ↓pkVarV3, ↓pkVarV4, ↓pkVarV5, ↓pkVarV6, ↓pkVarV7, ↓pkVarV8, ↓pkVarV9, ↓pkVarV10, ↓pkVarO0, ↓pkVarO1, ↓pkVarO2, ↓pkVarO3, ↓pkVarO4, ↓pkVarO5, ↓pkVarO6, ↓pkVarO7, ↓pkVarO8, ↓pkVarO9, ↓pkVarO10, ↓kSetN0, ↓kSetN1, ↓kSetN2, ↓kSetN3, ↓kSetN4, ↓kSetN5, ↓kSetN6, ↓kSetN7, ↓kSetN8, ↓kSetN9, ↓kSetN10, ↓kSetO_N0, ↓kSetO_N1, ↓kSetO_N2, ↓kSetO_N3, ↓kSetO_N4, ↓kSetO_N5, ↓kSetO_N6, ↓kSetO_N7, ↓kSetO_N8, ↓kSetO_N9, ↓kSetO_N10, ↓pgNameN0, ↓pgNameN1, ↓pgNameN2, ↓pgNameN3, ↓pgNameN4, ↓pgNameN5, ↓pgNameN6, ↓pgNameN7, ↓pgNameN8, ↓pgNameN9, ↓pgNameN10, ↓ixS0, ↓ixS1, ↓ixS2, ↓ixS3, ↓ixS4, ↓ixS5, ↓ixS6, ↓ixS7, ↓ixS8, ↓ixS9, ↓ixS10, ↓lenS0, ↓lenS1, ↓lenS2, ↓lenS3, ↓lenS4, ↓lenS5, ↓lenS6, ↓lenS7, ↓lenS8, ↓lenS9, ↓lenS10, ↓setS0, ↓setS1, ↓setS2, ↓setS3, ↓setS4, ↓setS5, ↓setS6, ↓setS7, ↓setS8, ↓setS9, ↓setS10, ↓conS0, ↓conS1, ↓conS2, ↓conS3, ↓conS4, ↓conS5, ↓conS6, ↓conS7, ↓conS8, ↓conS9, ↓conS10, ↓putS0, ↓putS1, ↓putS2, ↓putS3, ↓putS4, ↓putS5, ↓putS6, ↓putS7, ↓putS8, ↓putS9, ↓putS10]
  refine ⟨by split <;> omega, ?_⟩
  refine forW_range (fun _ S => ∃ W s1 s2 s3 s4 s5 s6 s7 s8 s9 s10, S = ⟨[.val (.lst (xs.map D.int)), s1, s2, s3, s4, s5, s6, s7, s8, s9, s10], W⟩) ?_ ?_ ⟨_, _, _, _, _, _, _, _, _, _, _, rfl⟩
  · rintro S ⟨W, s1, s2, s3, s4, s5, s6, s7, s8, s9, s10, rfl⟩
    try simp only [↓pC, ↓pOp, ↓pUn, ↓pSl, ↓pPart, ↓pNil, ↓pCons, ↓pTup, ↓pLst, ↓pCallB, ↓pTest, ↓pNot, ↓pAnd, ↓pOr, ↓pAndV, ↓pOrV, ↓pNotV, ↓pIf, ↓pNext, ↓pSeq, ↓pBreak, ↓pCont, ↓pDrop, ↓pRet, ↓pRetN, ↓pIfS, ↓pgNil, ↓pgCons, ↓pgTup, ↓pAsg, ↓pRaise, ↓pCall, ↓pIter, ↓pFor, ↓pLc, ↓pYes, ↓pkOf, ↓pIxK, ↓pTabG, ↓pLenK, ↓pChain, ↓pStore, ↓pAppend, ↓pPop, ↓poLst, ↓poDct, ↓pNewW, ↓pRng1, ↓pRng2, ↓pTry, ↓pTryAs, ↓oEq, ↓oNe, ↓oLen, ↓oSum, ↓oAll, ↓oAny, ↓oIsi, start0, List.map_cons, List.map_nil, List.length_cons, List.length_nil, List.cons_append, List.nil_append, List.getElem?_cons_zero, List.getElem?_cons_succ, List.set_cons_zero, List.set_cons_succ, List.replicate, D.bl.injEq, D.int.injEq, D.str.injEq, D.tup.injEq, D.lst.injEq, exists_eq_left', exists_eq_left, Option.some.injEq, Bool.false_eq_true, if_true, if_false, true_and, and_true, false_and, and_false, isi_int, isi_bool, isi_str, isi_tuple, isi_list, isiT_int, isiT_bool, isiT_str, isiT_tuple, isiT_list, Bool.not_true, Bool.not_false, dat_non, dat_bl, dat_int, dat_str, dat_tup, dat_lst, isInt_non, isInt_bl, isInt_int, isInt_str, isInt_tup, isInt_lst, isBool_non, isBool_bl, isBool_int, isBool_str, isBool_tup, isBool_lst, isStr_non, isStr_bl, isStr_int, isStr_str, isStr_tup, isStr_lst, isTup_non, isTup_bl, isTup_int, isTup_str, isTup_tup, isTup_lst, isLst_non, isLst_bl, isLst_int, isLst_str, isLst_tup, isLst_lst, Nat.reduceAdd, Nat.zero_add, sz_0, sz_1, sz_2, sz_3, sz_4, sz_5, sz_6, sz_7, sz_8, sz_9, sz_10, sz_11, sz_12, List.any_cons, List.any_nil, eqD_tup, eqD_str, eqD_int, eqDs_cons, eqDs_nil, eqDs_cn, eqDs_nc, Bool.or_false, Bool.and_true, at0, at1, at2, at3, at4, good_int, good_bl, good_nil, good_nilL, good_non, eqDs_nil_r, eqDs_nil_l, List.isEmpty_nil, List.isEmpty_cons, Bool.and_false, Bool.or_true, Bool.false_or, Bool.true_or, Bool.false_and, Bool.true_and, encB, wipS_mk, List.foldr_cons, List.foldr_nil, con_updW, ↓ixC_ownD, ↓oIx_tup, ↓oIx_lst, ↓oIx_str, ↓lenC_ownL, ↓lenC_ownD, ↓setC_ownD, putC_adr, Own_lst_inj, Con_own_inj, updW_upd, Nat.reduceSub, Nat.sub_self, ↓itD_lst, ↓itD_tup, ↓oInt_i, ↓oCmp_i, ↓oAdd_i, ↓oAdd_s, ↓oAdd_t, ↓oAdd_l, ↓oNeg_i, ↓o1I_i, ↓o2I_i, ↓oSl_t, ↓oSl_l, ↓oList_t, ↓oList_l, ↓oTuple_t, ↓oTuple_l, ↓oIn_t, ↓oIn_l, ↓oIsN_n, ↓ixC_ownLi, ↓setC_ownLi, ixN20, ixN21, ex_int1, ex_int2, ↓pSet_eq, ↓ixK_tup, ↓ixK_lst, ↓ixK_str, ↓ixK_dct, ↓lenK_tup, ↓lenK_lst, ↓lenK_str, ↓pSetO_eq, ↓pPar_eq, ↓kPar_mk, ↓pVarV0, ↓pVarV1, ↓pVarV2, ↓pVarV3, ↓pVarV4, ↓pVarV5, ↓pVarV6, ↓pVarV7, ↓pVarV8, ↓pVarV9, ↓pVarV10, ↓pVarL0, ↓pVarL1, ↓pVarL2, ↓pVarL3, ↓pVarL4, ↓pVarL5, ↓pVarL6, ↓pVarL7, ↓pVarL8, ↓pVarL9, ↓pVarL10, ↓pVarD0, ↓pVarD1, ↓pVarD2, ↓pVarD3, ↓pVarD4, ↓pVarD5, ↓pVarD6, ↓pVarD7, ↓pVarD8, ↓pVarD9, ↓pVarD10, ↓pkVarV0, ↓pkVarV1, ↓pkVarV2, ↓pkVarV3, ↓pkVarV4, ↓pkVarV5, ↓pkVarV6, ↓pkVarV7, ↓pkVarV8, ↓pkVarV9, ↓pkVarV10, ↓pkVarO0, ↓pkVarO1, ↓pkVarO2, ↓pkVarO3, ↓pkVarO4, ↓pkVarO5, ↓pkVarO6, ↓pkVarO7, ↓pkVarO8, ↓pkVarO9, ↓pkVarO10, ↓kSetN0, ↓kSetN1, ↓kSetN2, ↓kSetN3, ↓kSetN4, ↓kSetN5, ↓kSetN6, ↓kSetN7, ↓kSetN8, ↓kSetN9, ↓kSetN10, ↓kSetO_N0, ↓kSetO_N1, ↓kSetO_N2, ↓kSetO_N3, ↓kSetO_N4, ↓kSetO_N5, ↓kSetO_N6, ↓kSetO_N7, ↓kSetO_N8, ↓kSetO_N9, ↓kSetO_N10, ↓pgNameN0, ↓pgNameN1, ↓pgNameN2, ↓pgNameN3, ↓pgNameN4, ↓pgNameN5, ↓pgNameN6, ↓pgNameN7, ↓pgNameN8, ↓pgNameN9, ↓pgNameN10, ↓ixS0, ↓ixS1, ↓ixS2, ↓ixS3, ↓ixS4, ↓ixS5, ↓ixS6, ↓ixS7, ↓ixS8, ↓ixS9, ↓ixS10, ↓lenS0, ↓lenS1, ↓lenS2, ↓lenS3, ↓lenS4, ↓lenS5, ↓lenS6, ↓lenS7, ↓lenS8, ↓lenS9, ↓lenS10, ↓setS0, ↓setS1, ↓setS2, ↓setS3, ↓setS4, ↓setS5, ↓setS6, ↓setS7, ↓setS8, ↓setS9, ↓setS10, ↓conS0, ↓conS1, ↓conS2, ↓conS3, ↓conS4, ↓conS5, ↓conS6, ↓conS7, ↓conS8, ↓conS9, ↓conS10, ↓putS0, ↓putS1, ↓putS2, ↓putS3, ↓putS4, ↓putS5, ↓putS6, ↓putS7, ↓putS8, ↓putS9, ↓putS10]
    refine ⟨by omega, ?_⟩
    have ok1 : okL ⟨0, 1, 2, [.ite .due [.up] [.down, .wait 1], .until]⟩ = true := by decide
    refine lcW_map (f := fun d => match d with | .int n => encB (woB [.ite .due [.up] [.down, .wait 1], .until] 0 n) | _ => .non) _ _ (fun y hy Q' hQ' => ?_) (by show _ ≤ 2 ^ 24; simp [rangeD]) ?_
    · obtain ⟨n, hn, rfl⟩ := List.mem_map.mp hy
      have hn : n < 5 := by simpa using hn
      try simp only [↓pC, ↓pOp, ↓pUn, ↓pSl, ↓pPart, ↓pNil, ↓pCons, ↓pTup, ↓pLst, ↓pCallB, ↓pTest, ↓pNot, ↓pAnd, ↓pOr, ↓pAndV, ↓pOrV, ↓pNotV, ↓pIf, ↓pNext, ↓pSeq, ↓pBreak, ↓pCont, ↓pDrop, ↓pRet, ↓pRetN, ↓pIfS, ↓pgNil, ↓pgCons, ↓pgTup, ↓pAsg, ↓pRaise, ↓pCall, ↓pIter, ↓pFor, ↓pLc, ↓pYes, ↓pkOf, ↓pIxK, ↓pTabG, ↓pLenK, ↓pChain, ↓pStore, ↓pAppend, ↓pPop, ↓poLst, ↓poDct, ↓pNewW, ↓pRng1, ↓pRng2, ↓pTry, ↓pTryAs, ↓oEq, ↓oNe, ↓oLen, ↓oSum, ↓oAll, ↓oAny, ↓oIsi, start0, List.map_cons, List.map_nil, List.length_cons, List.length_nil, List.cons_append, List.nil_append, List.getElem?_cons_zero, List.getElem?_cons_succ, List.set_cons_zero, List.set_cons_succ, List.replicate, D.bl.injEq, D.int.injEq, D.str.injEq, D.tup.injEq, D.lst.injEq, exists_eq_left', exists_eq_left, Option.some.injEq, Bool.false_eq_true, if_true, if_false, true_and, and_true, false_and, and_false, isi_int, isi_bool, isi_str, isi_tuple, isi_list, isiT_int, isiT_bool, isiT_str, isiT_tuple, isiT_list, Bool.not_true, Bool.not_false, dat_non, dat_bl, dat_int, dat_str, dat_tup, dat_lst, isInt_non, isInt_bl, isInt_int, isInt_str, isInt_tup, isInt_lst, isBool_non, isBool_bl, isBool_int, isBool_str, isBool_tup, isBool_lst, isStr_non, isStr_bl, isStr_int, isStr_str, isStr_tup, isStr_lst, isTup_non, isTup_bl, isTup_int, isTup_str, isTup_tup, isTup_lst, isLst_non, isLst_bl, isLst_int, isLst_str, isLst_tup, isLst_lst, Nat.reduceAdd, Nat.zero_add, sz_0, sz_1, sz_2, sz_3, sz_4, sz_5, sz_6, sz_7, sz_8, sz_9, sz_10, sz_11, sz_12, List.any_cons, List.any_nil, eqD_tup, eqD_str, eqD_int, eqDs_cons, eqDs_nil, eqDs_cn, eqDs_nc, Bool.or_false, Bool.and_true, at0, at1, at2, at3, at4, good_int, good_bl, good_nil, good_nilL, good_non, eqDs_nil_r, eqDs_nil_l, List.isEmpty_nil, List.isEmpty_cons, Bool.and_false, Bool.or_true, Bool.false_or, Bool.true_or, Bool.false_and, Bool.true_and, encB, wipS_mk, List.foldr_cons, List.foldr_nil, con_updW, ↓ixC_ownD, ↓oIx_tup, ↓oIx_lst, ↓oIx_str, ↓lenC_ownL, ↓lenC_ownD, ↓setC_ownD, putC_adr, Own_lst_inj, Con_own_inj, updW_upd, Nat.reduceSub, Nat.sub_self, ↓itD_lst, ↓itD_tup, ↓oInt_i, ↓oCmp_i, ↓oAdd_i, ↓oAdd_s, ↓oAdd_t, ↓oAdd_l, ↓oNeg_i, ↓o1I_i, ↓o2I_i, ↓oSl_t, ↓oSl_l, ↓oList_t, ↓oList_l, ↓oTuple_t, ↓oTuple_l, ↓oIn_t, ↓oIn_l, ↓oIsN_n, ↓ixC_ownLi, ↓setC_ownLi, ixN20, ixN21, ex_int1, ex_int2, ↓pSet_eq, ↓ixK_tup, ↓ixK_lst, ↓ixK_str, ↓ixK_dct, ↓lenK_tup, ↓lenK_lst, ↓lenK_str, ↓pSetO_eq, ↓pPar_eq, ↓kPar_mk, ↓pVarV0, ↓pVarV1, ↓pVarV2, ↓pVarV3, ↓pVarV4, ↓pVarV5, ↓pVarV6, ↓pVarV7, ↓pVarV8, ↓pVarV9, ↓pVarV10, ↓pVarL0, ↓pVarL1, ↓pVarL2, ↓pVarL3, ↓pVarL4, ↓pVarL5, ↓pVarL6, ↓pVarL7, ↓pVarL8, ↓pVarL9, ↓pVarL10, ↓pVarD0, ↓pVarD1, ↓pVarD2, ↓pVarD3, ↓pVarD4, ↓pVarD5, ↓pVarD6, ↓pVarD7, ↓pVarD8, ↓pVarD9, ↓pVarD10, ↓pkVarV0, ↓pkVarV1, ↓pkVarV2, ↓pkVarV3, ↓pkVarV4, ↓pkVarV5, ↓pkVarV6, ↓pkVarV7, ↓pkVarV8, ↓pkVarV9, ↓pkVarV10, ↓pkVarO0, ↓pkVarO1, ↓pkVarO2, ↓pkVarO3, ↓pkVarO4, ↓pkVarO5, ↓pkVarO6, ↓pkVarO7, ↓pkVarO8, ↓pkVarO9, ↓pkVarO10, ↓kSetN0, ↓kSetN1, ↓kSetN2, ↓kSetN3, ↓kSetN4, ↓kSetN5, ↓kSetN6, ↓kSetN7, ↓kSetN8, ↓kSetN9, ↓kSetN10, ↓kSetO_N0, ↓kSetO_N1, ↓kSetO_N2, ↓kSetO_N3, ↓kSetO_N4, ↓kSetO_N5, ↓kSetO_N6, ↓kSetO_N7, ↓kSetO_N8, ↓kSetO_N9, ↓kSetO_N10, ↓pgNameN0, ↓pgNameN1, ↓pgNameN2, ↓pgNameN3, ↓pgNameN4, ↓pgNameN5, ↓pgNameN6, ↓pgNameN7, ↓pgNameN8, ↓pgNameN9, ↓pgNameN10, ↓ixS0, ↓ixS1, ↓ixS2, ↓ixS3, ↓ixS4, ↓ixS5, ↓ixS6, ↓ixS7, ↓ixS8, ↓ixS9, ↓ixS10, ↓lenS0, ↓lenS1, ↓lenS2, ↓lenS3, ↓lenS4, ↓lenS5, ↓lenS6, ↓lenS7, ↓lenS8, ↓lenS9, ↓lenS10, ↓setS0, ↓setS1, ↓setS2, ↓setS3, ↓setS4, ↓setS5, ↓setS6, ↓setS7, ↓setS8, ↓setS9, ↓setS10, ↓conS0, ↓conS1, ↓conS2, ↓conS3, ↓conS4, ↓conS5, ↓conS6, ↓conS7, ↓conS8, ↓conS9, ↓conS10, ↓putS0, ↓putS1, ↓putS2, ↓putS3, ↓putS4, ↓putS5, ↓putS6, ↓putS7, ↓putS8, ↓putS9, ↓putS10]
      have hin : isNum (.int (0 + (n : Int))) 0 (5 - 1) = true := isNum_iff.mpr ⟨_, by simp only [inR, Bool.and_eq_true, decide_eq_true_eq]; omega, rfl⟩
      refine ⟨_, _, rfl, good_L ok1, rfl, fun h => ?_, fun _ => ⟨_, ok1, rfl, fun h => ?_, fun k hk _ => ?_⟩⟩
      · have h2 := isLoop_iff.mpr ⟨_, ok1, rfl⟩
        exact absurd (h2.symm.trans h) (by decide)
      · rw [show ((listedB [Stm.ite .due [.up] [.down, .wait 1], .until]).length : Int) = 5 from rfl, hin] at h; cases h
      · cases hk
        try simp only [encL, ↓pC, ↓pOp, ↓pUn, ↓pSl, ↓pPart, ↓pNil, ↓pCons, ↓pTup, ↓pLst, ↓pCallB, ↓pTest, ↓pNot, ↓pAnd, ↓pOr, ↓pAndV, ↓pOrV, ↓pNotV, ↓pIf, ↓pNext, ↓pSeq, ↓pBreak, ↓pCont, ↓pDrop, ↓pRet, ↓pRetN, ↓pIfS, ↓pgNil, ↓pgCons, ↓pgTup, ↓pAsg, ↓pRaise, ↓pCall, ↓pIter, ↓pFor, ↓pLc, ↓pYes, ↓pkOf, ↓pIxK, ↓pTabG, ↓pLenK, ↓pChain, ↓pStore, ↓pAppend, ↓pPop, ↓poLst, ↓poDct, ↓pNewW, ↓pRng1, ↓pRng2, ↓pTry, ↓pTryAs, ↓oEq, ↓oNe, ↓oLen, ↓oSum, ↓oAll, ↓oAny, ↓oIsi, start0, List.map_cons, List.map_nil, List.length_cons, List.length_nil, List.cons_append, List.nil_append, List.getElem?_cons_zero, List.getElem?_cons_succ, List.set_cons_zero, List.set_cons_succ, List.replicate, D.bl.injEq, D.int.injEq, D.str.injEq, D.tup.injEq, D.lst.injEq, exists_eq_left', exists_eq_left, Option.some.injEq, Bool.false_eq_true, if_true, if_false, true_and, and_true, false_and, and_false, isi_int, isi_bool, isi_str, isi_tuple, isi_list, isiT_int, isiT_bool, isiT_str, isiT_tuple, isiT_list, Bool.not_true, Bool.not_false, dat_non, dat_bl, dat_int, dat_str, dat_tup, dat_lst, isInt_non, isInt_bl, isInt_int, isInt_str, isInt_tup, isInt_lst, isBool_non, isBool_bl, isBool_int, isBool_str, isBool_tup, isBool_lst, isStr_non, isStr_bl, isStr_int, isStr_str, isStr_tup, isStr_lst, isTup_non, isTup_bl, isTup_int, isTup_str, isTup_tup, isTup_lst, isLst_non, isLst_bl, isLst_int, isLst_str, isLst_tup, isLst_lst, Nat.reduceAdd, Nat.zero_add, sz_0, sz_1, sz_2, sz_3, sz_4, sz_5, sz_6, sz_7, sz_8, sz_9, sz_10, sz_11, sz_12, List.any_cons, List.any_nil, eqD_tup, eqD_str, eqD_int, eqDs_cons, eqDs_nil, eqDs_cn, eqDs_nc, Bool.or_false, Bool.and_true, at0, at1, at2, at3, at4, good_int, good_bl, good_nil, good_nilL, good_non, eqDs_nil_r, eqDs_nil_l, List.isEmpty_nil, List.isEmpty_cons, Bool.and_false, Bool.or_true, Bool.false_or, Bool.true_or, Bool.false_and, Bool.true_and, encB, wipS_mk, List.foldr_cons, List.foldr_nil, con_updW, ↓ixC_ownD, ↓oIx_tup, ↓oIx_lst, ↓oIx_str, ↓lenC_ownL, ↓lenC_ownD, ↓setC_ownD, putC_adr, Own_lst_inj, Con_own_inj, updW_upd, Nat.reduceSub, Nat.sub_self, ↓itD_lst, ↓itD_tup, ↓oInt_i, ↓oCmp_i, ↓oAdd_i, ↓oAdd_s, ↓oAdd_t, ↓oAdd_l, ↓oNeg_i, ↓o1I_i, ↓o2I_i, ↓oSl_t, ↓oSl_l, ↓oList_t, ↓oList_l, ↓oTuple_t, ↓oTuple_l, ↓oIn_t, ↓oIn_l, ↓oIsN_n, ↓ixC_ownLi, ↓setC_ownLi, ixN20, ixN21, ex_int1, ex_int2, ↓pSet_eq, ↓ixK_tup, ↓ixK_lst, ↓ixK_str, ↓ixK_dct, ↓lenK_tup, ↓lenK_lst, ↓lenK_str, ↓pSetO_eq, ↓pPar_eq, ↓kPar_mk, ↓pVarV0, ↓pVarV1, ↓pVarV2, ↓pVarV3, ↓pVarV4, ↓pVarV5, ↓pVarV6, ↓pVarV7, ↓pVarV8, ↓pVarV9, ↓pVarV10, ↓pVarL0, ↓pVarL1, ↓pVarL2, ↓pVarL3, ↓pVarL4, ↓pVarL5, ↓pVarL6, ↓pVarL7, ↓pVarL8, ↓pVarL9, ↓pVarL10, ↓pVarD0, ↓pVarD1, ↓pVarD2, ↓pVarD3, ↓pVarD4, ↓pVarD5, ↓pVarD6, ↓pVarD7, ↓pVarD8, ↓pVarD9, ↓pVarD10, ↓pkVarV0, ↓pkVarV1, ↓pkVarV2, ↓pkVarV3, ↓pkVarV4, ↓pkVarV5, ↓pkVarV6, ↓pkVarV7, ↓pkVarV8, ↓pkVarV9, ↓pkVarV10, ↓pkVarO0, ↓pkVarO1, ↓pkVarO2, ↓pkVarO3, ↓pkVarO4, ↓pkVarO5, ↓pkVarO6, ↓pkVarO7, ↓pkVarO8, ↓pkVarO9, ↓pkVarO10, ↓kSetN0, ↓kSetN1, ↓kSetN2, ↓kSetN3, ↓kSetN4, ↓kSetN5, ↓kSetN6, ↓kSetN7, ↓kSetN8, ↓kSetN9, ↓kSetN10, ↓kSetO_N0, ↓kSetO_N1, ↓kSetO_N2, ↓kSetO_N3, ↓kSetO_N4, ↓kSetO_N5, ↓kSetO_N6, ↓kSetO_N7, ↓kSetO_N8, ↓kSetO_N9, ↓kSetO_N10, ↓pgNameN0, ↓pgNameN1, ↓pgNameN2, ↓pgNameN3, ↓pgNameN4, ↓pgNameN5, ↓pgNameN6, ↓pgNameN7, ↓pgNameN8, ↓pgNameN9, ↓pgNameN10, ↓ixS0, ↓ixS1, ↓ixS2, ↓ixS3, ↓ixS4, ↓ixS5, ↓ixS6, ↓ixS7, ↓ixS8, ↓ixS9, ↓ixS10, ↓lenS0, ↓lenS1, ↓lenS2, ↓lenS3, ↓lenS4, ↓lenS5, ↓lenS6, ↓lenS7, ↓lenS8, ↓lenS9, ↓lenS10, ↓setS0, ↓setS1, ↓setS2, ↓setS3, ↓setS4, ↓setS5, ↓setS6, ↓setS7, ↓setS8, ↓setS9, ↓setS10, ↓conS0, ↓conS1, ↓conS2, ↓conS3, ↓conS4, ↓conS5, ↓conS6, ↓conS7, ↓conS8, ↓conS9, ↓conS10, ↓putS0, ↓putS1, ↓putS2, ↓putS3, ↓putS4, ↓putS5, ↓putS6, ↓putS7, ↓putS8, ↓putS9, ↓putS10]
        exact hQ' _ rfl
    · have e : ([] : List D) ++ (rangeD 0 (Int.toNat 5)).map (fun d => match d with | .int n => encB (woB [.ite .due [.up] [.down, .wait 1], .until] 0 n) | _ => .non) =
          [.tup [.tup [.str "until"]], .tup [.tup [.str "if", .tup [.str "due"], .tup [], .tup [.tup [.str "down"], .tup [.str "wait", .int 1]]], .tup [.str "until"]], .tup [.tup [.str "if", .tup [.str "due"], .tup [.tup [.str "up"]], .tup [.tup [.str "wait", .int 1]]], .tup [.str "until"]],
            .tup [.tup [.str "if", .tup [.str "due"], .tup [.tup [.str "up"]], .tup [.tup [.str "down"]]], .tup [.str "until"]], .tup [.tup [.str "if", .tup [.str "due"], .tup [.tup [.str "up"]], .tup [.tup [.str "down"], .tup [.str "wait", .int 1]]]]] := rfl
      rw [e]
      try simp only [cut_to1, List.take_succ_cons, List.take_zero, beq_self_eq_true, ↓pC, ↓pOp, ↓pUn, ↓pSl, ↓pPart, ↓pNil, ↓pCons, ↓pTup, ↓pLst, ↓pCallB, ↓pTest, ↓pNot, ↓pAnd, ↓pOr, ↓pAndV, ↓pOrV, ↓pNotV, ↓pIf, ↓pNext, ↓pSeq, ↓pBreak, ↓pCont, ↓pDrop, ↓pRet, ↓pRetN, ↓pIfS, ↓pgNil, ↓pgCons, ↓pgTup, ↓pAsg, ↓pRaise, ↓pCall, ↓pIter, ↓pFor, ↓pLc, ↓pYes, ↓pkOf, ↓pIxK, ↓pTabG, ↓pLenK, ↓pChain, ↓pStore, ↓pAppend, ↓pPop, ↓poLst, ↓poDct, ↓pNewW, ↓pRng1, ↓pRng2, ↓pTry, ↓pTryAs, ↓oEq, ↓oNe, ↓oLen, ↓oSum, ↓oAll, ↓oAny, ↓oIsi, start0, List.map_cons, List.map_nil, List.length_cons, List.length_nil, List.cons_append, List.nil_append, List.getElem?_cons_zero, List.getElem?_cons_succ, List.set_cons_zero, List.set_cons_succ, List.replicate, D.bl.injEq, D.int.injEq, D.str.injEq, D.tup.injEq, D.lst.injEq, exists_eq_left', exists_eq_left, Option.some.injEq, Bool.false_eq_true, if_true, if_false, true_and, and_true, false_and, and_false, isi_int, isi_bool, isi_str, isi_tuple, isi_list, isiT_int, isiT_bool, isiT_str, isiT_tuple, isiT_list, Bool.not_true, Bool.not_false, dat_non, dat_bl, dat_int, dat_str, dat_tup, dat_lst, isInt_non, isInt_bl, isInt_int, isInt_str, isInt_tup, isInt_lst, isBool_non, isBool_bl, isBool_int, isBool_str, isBool_tup, isBool_lst, isStr_non, isStr_bl, isStr_int, isStr_str, isStr_tup, isStr_lst, isTup_non, isTup_bl, isTup_int, isTup_str, isTup_tup, isTup_lst, isLst_non, isLst_bl, isLst_int, isLst_str, isLst_tup, isLst_lst, Nat.reduceAdd, Nat.zero_add, sz_0, sz_1, sz_2, sz_3, sz_4, sz_5, sz_6, sz_7, sz_8, sz_9, sz_10, sz_11, sz_12, List.any_cons, List.any_nil, eqD_tup, eqD_str, eqD_int, eqDs_cons, eqDs_nil, eqDs_cn, eqDs_nc, Bool.or_false, Bool.and_true, at0, at1, at2, at3, at4, good_int, good_bl, good_nil, good_nilL, good_non, eqDs_nil_r, eqDs_nil_l, List.isEmpty_nil, List.isEmpty_cons, Bool.and_false, Bool.or_true, Bool.false_or, Bool.true_or, Bool.false_and, Bool.true_and, encB, wipS_mk, List.foldr_cons, List.foldr_nil, con_updW, ↓ixC_ownD, ↓oIx_tup, ↓oIx_lst, ↓oIx_str, ↓lenC_ownL, ↓lenC_ownD, ↓setC_ownD, putC_adr, Own_lst_inj, Con_own_inj, updW_upd, Nat.reduceSub, Nat.sub_self, ↓itD_lst, ↓itD_tup, ↓oInt_i, ↓oCmp_i, ↓oAdd_i, ↓oAdd_s, ↓oAdd_t, ↓oAdd_l, ↓oNeg_i, ↓o1I_i, ↓o2I_i, ↓oSl_t, ↓oSl_l, ↓oList_t, ↓oList_l, ↓oTuple_t, ↓oTuple_l, ↓oIn_t, ↓oIn_l, ↓oIsN_n, ↓ixC_ownLi, ↓setC_ownLi, ixN20, ixN21, ex_int1, ex_int2, ↓pSet_eq, ↓ixK_tup, ↓ixK_lst, ↓ixK_str, ↓ixK_dct, ↓lenK_tup, ↓lenK_lst, ↓lenK_str, ↓pSetO_eq, ↓pPar_eq, ↓kPar_mk, ↓pVarV0, ↓pVarV1, ↓pVarV2, ↓pVarV3, ↓pVarV4, ↓pVarV5, ↓pVarV6, ↓pVarV7, ↓pVarV8, ↓pVarV9, ↓pVarV10, ↓pVarL0, ↓pVarL1, ↓pVarL2, ↓pVarL3, ↓pVarL4, ↓pVarL5, ↓pVarL6, ↓pVarL7, ↓pVarL8, ↓pVarL9, ↓pVarL10, ↓pVarD0, ↓pVarD1, ↓pVarD2, ↓pVarD3, ↓pVarD4, ↓pVarD5, ↓pVarD6, ↓pVarD7, ↓pVarD8, ↓pVarD9, ↓pVarD10, ↓pkVarV0, ↓pkVarV1, ↓pkVarV2, ↓pkVarV3, ↓pkVarV4, ↓pkVarV5, ↓pkVarV6, ↓pkVarV7, ↓pkVarV8, ↓pkVarV9, ↓pkVarV10, ↓pkVarO0, ↓pkVarO1, ↓pkVarO2, ↓pkVarO3, ↓pkVarO4, ↓pkVarO5, ↓pkVarO6, ↓pkVarO7, ↓pkVarO8, ↓pkVarO9, ↓pkVarO10, ↓kSetN0, ↓kSetN1, ↓kSetN2, ↓kSetN3, ↓kSetN4, ↓kSetN5, ↓kSetN6, ↓kSetN7, ↓kSetN8, ↓kSetN9, ↓kSetN10, ↓kSetO_N0, ↓kSetO_N1, ↓kSetO_N2, ↓kSetO_N3, ↓kSetO_N4, ↓kSetO_N5, ↓kSetO_N6, ↓kSetO_N7, ↓kSetO_N8, ↓kSetO_N9, ↓kSetO_N10, ↓pgNameN0, ↓pgNameN1, ↓pgNameN2, ↓pgNameN3, ↓pgNameN4, ↓pgNameN5, ↓pgNameN6, ↓pgNameN7, ↓pgNameN8, ↓pgNameN9, ↓pgNameN10, ↓ixS0, ↓ixS1, ↓ixS2, ↓ixS3, ↓ixS4, ↓ixS5, ↓ixS6, ↓ixS7, ↓ixS8, ↓ixS9, ↓ixS10, ↓lenS0, ↓lenS1, ↓lenS2, ↓lenS3, ↓lenS4, ↓lenS5, ↓lenS6, ↓lenS7, ↓lenS8, ↓lenS9, ↓lenS10, ↓setS0, ↓setS1, ↓setS2, ↓setS3, ↓setS4, ↓setS5, ↓setS6, ↓setS7, ↓setS8, ↓setS9, ↓setS10, ↓conS0, ↓conS1, ↓conS2, ↓conS3, ↓conS4, ↓conS5, ↓conS6, ↓conS7, ↓conS8, ↓conS9, ↓conS10, ↓putS0, ↓putS1, ↓putS2, ↓putS3, ↓putS4, ↓putS5, ↓putS6, ↓putS7, ↓putS8, ↓putS9, ↓putS10]
      exact ⟨by decide +kernel, by decide +kernel, by decide +kernel, by decide +kernel, by decide +kernel, by decide +kernel, by decide +kernel, by decide +kernel, q _⟩
  · rintro k S K' hk ⟨W, s1, s2, s3, s4, s5, s6, s7, s8, s9, s10, rfl⟩ hK
    try simp only [↓pC, ↓pOp, ↓pUn, ↓pSl, ↓pPart, ↓pNil, ↓pCons, ↓pTup, ↓pLst, ↓pCallB, ↓pTest, ↓pNot, ↓pAnd, ↓pOr, ↓pAndV, ↓pOrV, ↓pNotV, ↓pIf, ↓pNext, ↓pSeq, ↓pBreak, ↓pCont, ↓pDrop, ↓pRet, ↓pRetN, ↓pIfS, ↓pgNil, ↓pgCons, ↓pgTup, ↓pAsg, ↓pRaise, ↓pCall, ↓pIter, ↓pFor, ↓pLc, ↓pYes, ↓pkOf, ↓pIxK, ↓pTabG, ↓pLenK, ↓pChain, ↓pStore, ↓pAppend, ↓pPop, ↓poLst, ↓poDct, ↓pNewW, ↓pRng1, ↓pRng2, ↓pTry, ↓pTryAs, ↓oEq, ↓oNe, ↓oLen, ↓oSum, ↓oAll, ↓oAny, ↓oIsi, start0, List.map_cons, List.map_nil, List.length_cons, List.length_nil, List.cons_append, List.nil_append, List.getElem?_cons_zero, List.getElem?_cons_succ, List.set_cons_zero, List.set_cons_succ, List.replicate, D.bl.injEq, D.int.injEq, D.str.injEq, D.tup.injEq, D.lst.injEq, exists_eq_left', exists_eq_left, Option.some.injEq, Bool.false_eq_true, if_true, if_false, true_and, and_true, false_and, and_false, isi_int, isi_bool, isi_str, isi_tuple, isi_list, isiT_int, isiT_bool, isiT_str, isiT_tuple, isiT_list, Bool.not_true, Bool.not_false, dat_non, dat_bl, dat_int, dat_str, dat_tup, dat_lst, isInt_non, isInt_bl, isInt_int, isInt_str, isInt_tup, isInt_lst, isBool_non, isBool_bl, isBool_int, isBool_str, isBool_tup, isBool_lst, isStr_non, isStr_bl, isStr_int, isStr_str, isStr_tup, isStr_lst, isTup_non, isTup_bl, isTup_int, isTup_str, isTup_tup, isTup_lst, isLst_non, isLst_bl, isLst_int, isLst_str, isLst_tup, isLst_lst, Nat.reduceAdd, Nat.zero_add, sz_0, sz_1, sz_2, sz_3, sz_4, sz_5, sz_6, sz_7, sz_8, sz_9, sz_10, sz_11, sz_12, List.any_cons, List.any_nil, eqD_tup, eqD_str, eqD_int, eqDs_cons, eqDs_nil, eqDs_cn, eqDs_nc, Bool.or_false, Bool.and_true, at0, at1, at2, at3, at4, good_int, good_bl, good_nil, good_nilL, good_non, eqDs_nil_r, eqDs_nil_l, List.isEmpty_nil, List.isEmpty_cons, Bool.and_false, Bool.or_true, Bool.false_or, Bool.true_or, Bool.false_and, Bool.true_and, encB, wipS_mk, List.foldr_cons, List.foldr_nil, con_updW, ↓ixC_ownD, ↓oIx_tup, ↓oIx_lst, ↓oIx_str, ↓lenC_ownL, ↓lenC_ownD, ↓setC_ownD, putC_adr, Own_lst_inj, Con_own_inj, updW_upd, Nat.reduceSub, Nat.sub_self, ↓itD_lst, ↓itD_tup, ↓oInt_i, ↓oCmp_i, ↓oAdd_i, ↓oAdd_s, ↓oAdd_t, ↓oAdd_l, ↓oNeg_i, ↓o1I_i, ↓o2I_i, ↓oSl_t, ↓oSl_l, ↓oList_t, ↓oList_l, ↓oTuple_t, ↓oTuple_l, ↓oIn_t, ↓oIn_l, ↓oIsN_n, ↓ixC_ownLi, ↓setC_ownLi, ixN20, ixN21, ex_int1, ex_int2, ↓pSet_eq, ↓ixK_tup, ↓ixK_lst, ↓ixK_str, ↓ixK_dct, ↓lenK_tup, ↓lenK_lst, ↓lenK_str, ↓pSetO_eq, ↓pPar_eq, ↓kPar_mk, ↓pVarV0, ↓pVarV1, ↓pVarV2, ↓pVarV3, ↓pVarV4, ↓pVarV5, ↓pVarV6, ↓pVarV7, ↓pVarV8, ↓pVarV9, ↓pVarV10, ↓pVarL0, ↓pVarL1, ↓pVarL2, ↓pVarL3, ↓pVarL4, ↓pVarL5, ↓pVarL6, ↓pVarL7, ↓pVarL8, ↓pVarL9, ↓pVarL10, ↓pVarD0, ↓pVarD1, ↓pVarD2, ↓pVarD3, ↓pVarD4, ↓pVarD5, ↓pVarD6, ↓pVarD7, ↓pVarD8, ↓pVarD9, ↓pVarD10, ↓pkVarV0, ↓pkVarV1, ↓pkVarV2, ↓pkVarV3, ↓pkVarV4, ↓pkVarV5, ↓pkVarV6, ↓pkVarV7, ↓pkVarV8, ↓pkVarV9, ↓pkVarV10, ↓pkVarO0, ↓pkVarO1, ↓pkVarO2, ↓pkVarO3, ↓pkVarO4, ↓pkVarO5, ↓pkVarO6, ↓pkVarO7, ↓pkVarO8, ↓pkVarO9, ↓pkVarO10, ↓kSetN0, ↓kSetN1, ↓kSetN2, ↓kSetN3, ↓kSetN4, ↓kSetN5, ↓kSetN6, ↓kSetN7, ↓kSetN8, ↓kSetN9, ↓kSetN10, ↓kSetO_N0, ↓kSetO_N1, ↓kSetO_N2, ↓kSetO_N3, ↓kSetO_N4, ↓kSetO_N5, ↓kSetO_N6, ↓kSetO_N7, ↓kSetO_N8, ↓kSetO_N9, ↓kSetO_N10, ↓pgNameN0, ↓pgNameN1, ↓pgNameN2, ↓pgNameN3, ↓pgNameN4, ↓pgNameN5, ↓pgNameN6, ↓pgNameN7, ↓pgNameN8, ↓pgNameN9, ↓pgNameN10, ↓ixS0, ↓ixS1, ↓ixS2, ↓ixS3, ↓ixS4, ↓ixS5, ↓ixS6, ↓ixS7, ↓ixS8, ↓ixS9, ↓ixS10, ↓lenS0, ↓lenS1, ↓lenS2, ↓lenS3, ↓lenS4, ↓lenS5, ↓lenS6, ↓lenS7, ↓lenS8, ↓lenS9, ↓lenS10, ↓setS0, ↓setS1, ↓setS2, ↓setS3, ↓setS4, ↓setS5, ↓setS6, ↓setS7, ↓setS8, ↓setS9, ↓setS10, ↓conS0, ↓conS1, ↓conS2, ↓conS3, ↓conS4, ↓conS5, ↓conS6, ↓conS7, ↓conS8, ↓conS9, ↓conS10, ↓putS0, ↓putS1, ↓putS2, ↓putS3, ↓putS4, ↓putS5, ↓putS6, ↓putS7, ↓putS8, ↓putS9, ↓putS10]
    refine ⟨xs, _, rfl, by omega, by split at hk <;> omega, fun a W1 d1 _ => ?_⟩
    refine ⟨by omega, ?_⟩
    refine forW_range (fun _ S => ∃ W s3 s4 s5 s6 s7 s8 s9 s10, Src W a ∧ S = ⟨[.val (.lst (xs.map D.int)), .val (.int (0 + k)), .val (.adr a), s3, s4, s5, s6, s7, s8, s9, s10], W⟩) ?_ ?_ ⟨W1, _, _, _, _, _, _, _, _, d1.src, rfl⟩
    · rintro S ⟨W, s3, s4, s5, s6, s7, s8, s9, s10, _, rfl⟩
      exact hK _ ⟨_, _, _, _, _, _, _, _, _, _, _, rfl⟩
    · rintro t S K2 ht ⟨W, s3, s4, s5, s6, s7, s8, s9, s10, hs, rfl⟩ hK2
      try simp only [↓pC, ↓pOp, ↓pUn, ↓pSl, ↓pPart, ↓pNil, ↓pCons, ↓pTup, ↓pLst, ↓pCallB, ↓pTest, ↓pNot, ↓pAnd, ↓pOr, ↓pAndV, ↓pOrV, ↓pNotV, ↓pIf, ↓pNext, ↓pSeq, ↓pBreak, ↓pCont, ↓pDrop, ↓pRet, ↓pRetN, ↓pIfS, ↓pgNil, ↓pgCons, ↓pgTup, ↓pAsg, ↓pRaise, ↓pCall, ↓pIter, ↓pFor, ↓pLc, ↓pYes, ↓pkOf, ↓pIxK, ↓pTabG, ↓pLenK, ↓pChain, ↓pStore, ↓pAppend, ↓pPop, ↓poLst, ↓poDct, ↓pNewW, ↓pRng1, ↓pRng2, ↓pTry, ↓pTryAs, ↓oEq, ↓oNe, ↓oLen, ↓oSum, ↓oAll, ↓oAny, ↓oIsi, start0, List.map_cons, List.map_nil, List.length_cons, List.length_nil, List.cons_append, List.nil_append, List.getElem?_cons_zero, List.getElem?_cons_succ, List.set_cons_zero, List.set_cons_succ, List.replicate, D.bl.injEq, D.int.injEq, D.str.injEq, D.tup.injEq, D.lst.injEq, exists_eq_left', exists_eq_left, Option.some.injEq, Bool.false_eq_true, if_true, if_false, true_and, and_true, false_and, and_false, isi_int, isi_bool, isi_str, isi_tuple, isi_list, isiT_int, isiT_bool, isiT_str, isiT_tuple, isiT_list, Bool.not_true, Bool.not_false, dat_non, dat_bl, dat_int, dat_str, dat_tup, dat_lst, isInt_non, isInt_bl, isInt_int, isInt_str, isInt_tup, isInt_lst, isBool_non, isBool_bl, isBool_int, isBool_str, isBool_tup, isBool_lst, isStr_non, isStr_bl, isStr_int, isStr_str, isStr_tup, isStr_lst, isTup_non, isTup_bl, isTup_int, isTup_str, isTup_tup, isTup_lst, isLst_non, isLst_bl, isLst_int, isLst_str, isLst_tup, isLst_lst, Nat.reduceAdd, Nat.zero_add, sz_0, sz_1, sz_2, sz_3, sz_4, sz_5, sz_6, sz_7, sz_8, sz_9, sz_10, sz_11, sz_12, List.any_cons, List.any_nil, eqD_tup, eqD_str, eqD_int, eqDs_cons, eqDs_nil, eqDs_cn, eqDs_nc, Bool.or_false, Bool.and_true, at0, at1, at2, at3, at4, good_int, good_bl, good_nil, good_nilL, good_non, eqDs_nil_r, eqDs_nil_l, List.isEmpty_nil, List.isEmpty_cons, Bool.and_false, Bool.or_true, Bool.false_or, Bool.true_or, Bool.false_and, Bool.true_and, encB, wipS_mk, List.foldr_cons, List.foldr_nil, con_updW, ↓ixC_ownD, ↓oIx_tup, ↓oIx_lst, ↓oIx_str, ↓lenC_ownL, ↓lenC_ownD, ↓setC_ownD, putC_adr, Own_lst_inj, Con_own_inj, updW_upd, Nat.reduceSub, Nat.sub_self, ↓itD_lst, ↓itD_tup, ↓oInt_i, ↓oCmp_i, ↓oAdd_i, ↓oAdd_s, ↓oAdd_t, ↓oAdd_l, ↓oNeg_i, ↓o1I_i, ↓o2I_i, ↓oSl_t, ↓oSl_l, ↓oList_t, ↓oList_l, ↓oTuple_t, ↓oTuple_l, ↓oIn_t, ↓oIn_l, ↓oIsN_n, ↓ixC_ownLi, ↓setC_ownLi, ixN20, ixN21, ex_int1, ex_int2, ↓pSet_eq, ↓ixK_tup, ↓ixK_lst, ↓ixK_str, ↓ixK_dct, ↓lenK_tup, ↓lenK_lst, ↓lenK_str, ↓pSetO_eq, ↓pPar_eq, ↓kPar_mk, ↓pVarV0, ↓pVarV1, ↓pVarV2, ↓pVarV3, ↓pVarV4, ↓pVarV5, ↓pVarV6, ↓pVarV7, ↓pVarV8, ↓pVarV9, ↓pVarV10, ↓pVarL0, ↓pVarL1, ↓pVarL2, ↓pVarL3, ↓pVarL4, ↓pVarL5, ↓pVarL6, ↓pVarL7, ↓pVarL8, ↓pVarL9, ↓pVarL10, ↓pVarD0, ↓pVarD1, ↓pVarD2, ↓pVarD3, ↓pVarD4, ↓pVarD5, ↓pVarD6, ↓pVarD7, ↓pVarD8, ↓pVarD9, ↓pVarD10, ↓pkVarV0, ↓pkVarV1, ↓pkVarV2, ↓pkVarV3, ↓pkVarV4, ↓pkVarV5, ↓pkVarV6, ↓pkVarV7, ↓pkVarV8, ↓pkVarV9, ↓pkVarV10, ↓pkVarO0, ↓pkVarO1, ↓pkVarO2, ↓pkVarO3, ↓pkVarO4, ↓pkVarO5, ↓pkVarO6, ↓pkVarO7, ↓pkVarO8, ↓pkVarO9, ↓pkVarO10, ↓kSetN0, ↓kSetN1, ↓kSetN2, ↓kSetN3, ↓kSetN4, ↓kSetN5, ↓kSetN6, ↓kSetN7, ↓kSetN8, ↓kSetN9, ↓kSetN10, ↓kSetO_N0, ↓kSetO_N1, ↓kSetO_N2, ↓kSetO_N3, ↓kSetO_N4, ↓kSetO_N5, ↓kSetO_N6, ↓kSetO_N7, ↓kSetO_N8, ↓kSetO_N9, ↓kSetO_N10, ↓pgNameN0, ↓pgNameN1, ↓pgNameN2, ↓pgNameN3, ↓pgNameN4, ↓pgNameN5, ↓pgNameN6, ↓pgNameN7, ↓pgNameN8, ↓pgNameN9, ↓pgNameN10, ↓ixS0, ↓ixS1, ↓ixS2, ↓ixS3, ↓ixS4, ↓ixS5, ↓ixS6, ↓ixS7, ↓ixS8, ↓ixS9, ↓ixS10, ↓lenS0, ↓lenS1, ↓lenS2, ↓lenS3, ↓lenS4, ↓lenS5, ↓lenS6, ↓lenS7, ↓lenS8, ↓lenS9, ↓lenS10, ↓setS0, ↓setS1, ↓setS2, ↓setS3, ↓setS4, ↓setS5, ↓setS6, ↓setS7, ↓setS8, ↓setS9, ↓setS10, ↓conS0, ↓conS1, ↓conS2, ↓conS3, ↓conS4, ↓conS5, ↓conS6, ↓conS7, ↓conS8, ↓conS9, ↓conS10, ↓putS0, ↓putS1, ↓putS2, ↓putS3, ↓putS4, ↓putS5, ↓putS6, ↓putS7, ↓putS8, ↓putS9, ↓putS10]
      refine ⟨a, rfl, hs, fun L W2 hL d2 => ?_⟩
      have hB := (okL_iff.mp hL.1).2.1
      have h12 := (okL_iff.mp hL.1).2.2
      try simp only [encL, ↓pC, ↓pOp, ↓pUn, ↓pSl, ↓pPart, ↓pNil, ↓pCons, ↓pTup, ↓pLst, ↓pCallB, ↓pTest, ↓pNot, ↓pAnd, ↓pOr, ↓pAndV, ↓pOrV, ↓pNotV, ↓pIf, ↓pNext, ↓pSeq, ↓pBreak, ↓pCont, ↓pDrop, ↓pRet, ↓pRetN, ↓pIfS, ↓pgNil, ↓pgCons, ↓pgTup, ↓pAsg, ↓pRaise, ↓pCall, ↓pIter, ↓pFor, ↓pLc, ↓pYes, ↓pkOf, ↓pIxK, ↓pTabG, ↓pLenK, ↓pChain, ↓pStore, ↓pAppend, ↓pPop, ↓poLst, ↓poDct, ↓pNewW, ↓pRng1, ↓pRng2, ↓pTry, ↓pTryAs, ↓oEq, ↓oNe, ↓oLen, ↓oSum, ↓oAll, ↓oAny, ↓oIsi, start0, List.map_cons, List.map_nil, List.length_cons, List.length_nil, List.cons_append, List.nil_append, List.getElem?_cons_zero, List.getElem?_cons_succ, List.set_cons_zero, List.set_cons_succ, List.replicate, D.bl.injEq, D.int.injEq, D.str.injEq, D.tup.injEq, D.lst.injEq, exists_eq_left', exists_eq_left, Option.some.injEq, Bool.false_eq_true, if_true, if_false, true_and, and_true, false_and, and_false, isi_int, isi_bool, isi_str, isi_tuple, isi_list, isiT_int, isiT_bool, isiT_str, isiT_tuple, isiT_list, Bool.not_true, Bool.not_false, dat_non, dat_bl, dat_int, dat_str, dat_tup, dat_lst, isInt_non, isInt_bl, isInt_int, isInt_str, isInt_tup, isInt_lst, isBool_non, isBool_bl, isBool_int, isBool_str, isBool_tup, isBool_lst, isStr_non, isStr_bl, isStr_int, isStr_str, isStr_tup, isStr_lst, isTup_non, isTup_bl, isTup_int, isTup_str, isTup_tup, isTup_lst, isLst_non, isLst_bl, isLst_int, isLst_str, isLst_tup, isLst_lst, Nat.reduceAdd, Nat.zero_add, sz_0, sz_1, sz_2, sz_3, sz_4, sz_5, sz_6, sz_7, sz_8, sz_9, sz_10, sz_11, sz_12, List.any_cons, List.any_nil, eqD_tup, eqD_str, eqD_int, eqDs_cons, eqDs_nil, eqDs_cn, eqDs_nc, Bool.or_false, Bool.and_true, at0, at1, at2, at3, at4, good_int, good_bl, good_nil, good_nilL, good_non, eqDs_nil_r, eqDs_nil_l, List.isEmpty_nil, List.isEmpty_cons, Bool.and_false, Bool.or_true, Bool.false_or, Bool.true_or, Bool.false_and, Bool.true_and, encB, wipS_mk, List.foldr_cons, List.foldr_nil, con_updW, ↓ixC_ownD, ↓oIx_tup, ↓oIx_lst, ↓oIx_str, ↓lenC_ownL, ↓lenC_ownD, ↓setC_ownD, putC_adr, Own_lst_inj, Con_own_inj, updW_upd, Nat.reduceSub, Nat.sub_self, ↓itD_lst, ↓itD_tup, ↓oInt_i, ↓oCmp_i, ↓oAdd_i, ↓oAdd_s, ↓oAdd_t, ↓oAdd_l, ↓oNeg_i, ↓o1I_i, ↓o2I_i, ↓oSl_t, ↓oSl_l, ↓oList_t, ↓oList_l, ↓oTuple_t, ↓oTuple_l, ↓oIn_t, ↓oIn_l, ↓oIsN_n, ↓ixC_ownLi, ↓setC_ownLi, ixN20, ixN21, ex_int1, ex_int2, ↓pSet_eq, ↓ixK_tup, ↓ixK_lst, ↓ixK_str, ↓ixK_dct, ↓lenK_tup, ↓lenK_lst, ↓lenK_str, ↓pSetO_eq, ↓pPar_eq, ↓kPar_mk, ↓pVarV0, ↓pVarV1, ↓pVarV2, ↓pVarV3, ↓pVarV4, ↓pVarV5, ↓pVarV6, ↓pVarV7, ↓pVarV8, ↓pVarV9, ↓pVarV10, ↓pVarL0, ↓pVarL1, ↓pVarL2, ↓pVarL3, ↓pVarL4, ↓pVarL5, ↓pVarL6, ↓pVarL7, ↓pVarL8, ↓pVarL9, ↓pVarL10, ↓pVarD0, ↓pVarD1, ↓pVarD2, ↓pVarD3, ↓pVarD4, ↓pVarD5, ↓pVarD6, ↓pVarD7, ↓pVarD8, ↓pVarD9, ↓pVarD10, ↓pkVarV0, ↓pkVarV1, ↓pkVarV2, ↓pkVarV3, ↓pkVarV4, ↓pkVarV5, ↓pkVarV6, ↓pkVarV7, ↓pkVarV8, ↓pkVarV9, ↓pkVarV10, ↓pkVarO0, ↓pkVarO1, ↓pkVarO2, ↓pkVarO3, ↓pkVarO4, ↓pkVarO5, ↓pkVarO6, ↓pkVarO7, ↓pkVarO8, ↓pkVarO9, ↓pkVarO10, ↓kSetN0, ↓kSetN1, ↓kSetN2, ↓kSetN3, ↓kSetN4, ↓kSetN5, ↓kSetN6, ↓kSetN7, ↓kSetN8, ↓kSetN9, ↓kSetN10, ↓kSetO_N0, ↓kSetO_N1, ↓kSetO_N2, ↓kSetO_N3, ↓kSetO_N4, ↓kSetO_N5, ↓kSetO_N6, ↓kSetO_N7, ↓kSetO_N8, ↓kSetO_N9, ↓kSetO_N10, ↓pgNameN0, ↓pgNameN1, ↓pgNameN2, ↓pgNameN3, ↓pgNameN4, ↓pgNameN5, ↓pgNameN6, ↓pgNameN7, ↓pgNameN8, ↓pgNameN9, ↓pgNameN10, ↓ixS0, ↓ixS1, ↓ixS2, ↓ixS3, ↓ixS4, ↓ixS5, ↓ixS6, ↓ixS7, ↓ixS8, ↓ixS9, ↓ixS10, ↓lenS0, ↓lenS1, ↓lenS2, ↓lenS3, ↓lenS4, ↓lenS5, ↓lenS6, ↓lenS7, ↓lenS8, ↓lenS9, ↓lenS10, ↓setS0, ↓setS1, ↓setS2, ↓setS3, ↓setS4, ↓setS5, ↓setS6, ↓setS7, ↓setS8, ↓setS9, ↓setS10, ↓conS0, ↓conS1, ↓conS2, ↓conS3, ↓conS4, ↓conS5, ↓conS6, ↓conS7, ↓conS8, ↓conS9, ↓conS10, ↓putS0, ↓putS1, ↓putS2, ↓putS3, ↓putS4, ↓putS5, ↓putS6, ↓putS7, ↓putS8, ↓putS9, ↓putS10]
      refine ⟨L.body, rfl, hB, ?_⟩
      try simp only [↓pC, ↓pOp, ↓pUn, ↓pSl, ↓pPart, ↓pNil, ↓pCons, ↓pTup, ↓pLst, ↓pCallB, ↓pTest, ↓pNot, ↓pAnd, ↓pOr, ↓pAndV, ↓pOrV, ↓pNotV, ↓pIf, ↓pNext, ↓pSeq, ↓pBreak, ↓pCont, ↓pDrop, ↓pRet, ↓pRetN, ↓pIfS, ↓pgNil, ↓pgCons, ↓pgTup, ↓pAsg, ↓pRaise, ↓pCall, ↓pIter, ↓pFor, ↓pLc, ↓pYes, ↓pkOf, ↓pIxK, ↓pTabG, ↓pLenK, ↓pChain, ↓pStore, ↓pAppend, ↓pPop, ↓poLst, ↓poDct, ↓pNewW, ↓pRng1, ↓pRng2, ↓pTry, ↓pTryAs, ↓oEq, ↓oNe, ↓oLen, ↓oSum, ↓oAll, ↓oAny, ↓oIsi, start0, List.map_cons, List.map_nil, List.length_cons, List.length_nil, List.cons_append, List.nil_append, List.getElem?_cons_zero, List.getElem?_cons_succ, List.set_cons_zero, List.set_cons_succ, List.replicate, D.bl.injEq, D.int.injEq, D.str.injEq, D.tup.injEq, D.lst.injEq, exists_eq_left', exists_eq_left, Option.some.injEq, Bool.false_eq_true, if_true, if_false, true_and, and_true, false_and, and_false, isi_int, isi_bool, isi_str, isi_tuple, isi_list, isiT_int, isiT_bool, isiT_str, isiT_tuple, isiT_list, Bool.not_true, Bool.not_false, dat_non, dat_bl, dat_int, dat_str, dat_tup, dat_lst, isInt_non, isInt_bl, isInt_int, isInt_str, isInt_tup, isInt_lst, isBool_non, isBool_bl, isBool_int, isBool_str, isBool_tup, isBool_lst, isStr_non, isStr_bl, isStr_int, isStr_str, isStr_tup, isStr_lst, isTup_non, isTup_bl, isTup_int, isTup_str, isTup_tup, isTup_lst, isLst_non, isLst_bl, isLst_int, isLst_str, isLst_tup, isLst_lst, Nat.reduceAdd, Nat.zero_add, sz_0, sz_1, sz_2, sz_3, sz_4, sz_5, sz_6, sz_7, sz_8, sz_9, sz_10, sz_11, sz_12, List.any_cons, List.any_nil, eqD_tup, eqD_str, eqD_int, eqDs_cons, eqDs_nil, eqDs_cn, eqDs_nc, Bool.or_false, Bool.and_true, at0, at1, at2, at3, at4, good_int, good_bl, good_nil, good_nilL, good_non, eqDs_nil_r, eqDs_nil_l, List.isEmpty_nil, List.isEmpty_cons, Bool.and_false, Bool.or_true, Bool.false_or, Bool.true_or, Bool.false_and, Bool.true_and, encB, wipS_mk, List.foldr_cons, List.foldr_nil, con_updW, ↓ixC_ownD, ↓oIx_tup, ↓oIx_lst, ↓oIx_str, ↓lenC_ownL, ↓lenC_ownD, ↓setC_ownD, putC_adr, Own_lst_inj, Con_own_inj, updW_upd, Nat.reduceSub, Nat.sub_self, ↓itD_lst, ↓itD_tup, ↓oInt_i, ↓oCmp_i, ↓oAdd_i, ↓oAdd_s, ↓oAdd_t, ↓oAdd_l, ↓oNeg_i, ↓o1I_i, ↓o2I_i, ↓oSl_t, ↓oSl_l, ↓oList_t, ↓oList_l, ↓oTuple_t, ↓oTuple_l, ↓oIn_t, ↓oIn_l, ↓oIsN_n, ↓ixC_ownLi, ↓setC_ownLi, ixN20, ixN21, ex_int1, ex_int2, ↓pSet_eq, ↓ixK_tup, ↓ixK_lst, ↓ixK_str, ↓ixK_dct, ↓lenK_tup, ↓lenK_lst, ↓lenK_str, ↓pSetO_eq, ↓pPar_eq, ↓kPar_mk, ↓pVarV0, ↓pVarV1, ↓pVarV2, ↓pVarV3, ↓pVarV4, ↓pVarV5, ↓pVarV6, ↓pVarV7, ↓pVarV8, ↓pVarV9, ↓pVarV10, ↓pVarL0, ↓pVarL1, ↓pVarL2, ↓pVarL3, ↓pVarL4, ↓pVarL5, ↓pVarL6, ↓pVarL7, ↓pVarL8, ↓pVarL9, ↓pVarL10, ↓pVarD0, ↓pVarD1, ↓pVarD2, ↓pVarD3, ↓pVarD4, ↓pVarD5, ↓pVarD6, ↓pVarD7, ↓pVarD8, ↓pVarD9, ↓pVarD10, ↓pkVarV0, ↓pkVarV1, ↓pkVarV2, ↓pkVarV3, ↓pkVarV4, ↓pkVarV5, ↓pkVarV6, ↓pkVarV7, ↓pkVarV8, ↓pkVarV9, ↓pkVarV10, ↓pkVarO0, ↓pkVarO1, ↓pkVarO2, ↓pkVarO3, ↓pkVarO4, ↓pkVarO5, ↓pkVarO6, ↓pkVarO7, ↓pkVarO8, ↓pkVarO9, ↓pkVarO10, ↓kSetN0, ↓kSetN1, ↓kSetN2, ↓kSetN3, ↓kSetN4, ↓kSetN5, ↓kSetN6, ↓kSetN7, ↓kSetN8, ↓kSetN9, ↓kSetN10, ↓kSetO_N0, ↓kSetO_N1, ↓kSetO_N2, ↓kSetO_N3, ↓kSetO_N4, ↓kSetO_N5, ↓kSetO_N6, ↓kSetO_N7, ↓kSetO_N8, ↓kSetO_N9, ↓kSetO_N10, ↓pgNameN0, ↓pgNameN1, ↓pgNameN2, ↓pgNameN3, ↓pgNameN4, ↓pgNameN5, ↓pgNameN6, ↓pgNameN7, ↓pgNameN8, ↓pgNameN9, ↓pgNameN10, ↓ixS0, ↓ixS1, ↓ixS2, ↓ixS3, ↓ixS4, ↓ixS5, ↓ixS6, ↓ixS7, ↓ixS8, ↓ixS9, ↓ixS10, ↓lenS0, ↓lenS1, ↓lenS2, ↓lenS3, ↓lenS4, ↓lenS5, ↓lenS6, ↓lenS7, ↓lenS8, ↓lenS9, ↓lenS10, ↓setS0, ↓setS1, ↓setS2, ↓setS3, ↓setS4, ↓setS5, ↓setS6, ↓setS7, ↓setS8, ↓setS9, ↓setS10, ↓conS0, ↓conS1, ↓conS2, ↓conS3, ↓conS4, ↓conS5, ↓conS6, ↓conS7, ↓conS8, ↓conS9, ↓conS10, ↓putS0, ↓putS1, ↓putS2, ↓putS3, ↓putS4, ↓putS5, ↓putS6, ↓putS7, ↓putS8, ↓putS9, ↓putS10]
      refine ⟨by omega, ?_⟩
      refine forW_range (fun _ S => ∃ s6 s7 s8 s9 s10, S = ⟨[.val (.lst (xs.map D.int)), .val (.int (0 + k)), .val (.adr a), .val (.int (0 + t)), .val (encL L), .val (.int (listedB L.body).length), s6, s7, s8, s9, s10], W2⟩) ?_ ?_ ⟨_, _, _, _, _, rfl⟩
      · rintro S ⟨s6, s7, s8, s9, s10, rfl⟩
        try simp only [↓pC, ↓pOp, ↓pUn, ↓pSl, ↓pPart, ↓pNil, ↓pCons, ↓pTup, ↓pLst, ↓pCallB, ↓pTest, ↓pNot, ↓pAnd, ↓pOr, ↓pAndV, ↓pOrV, ↓pNotV, ↓pIf, ↓pNext, ↓pSeq, ↓pBreak, ↓pCont, ↓pDrop, ↓pRet, ↓pRetN, ↓pIfS, ↓pgNil, ↓pgCons, ↓pgTup, ↓pAsg, ↓pRaise, ↓pCall, ↓pIter, ↓pFor, ↓pLc, ↓pYes, ↓pkOf, ↓pIxK, ↓pTabG, ↓pLenK, ↓pChain, ↓pStore, ↓pAppend, ↓pPop, ↓poLst, ↓poDct, ↓pNewW, ↓pRng1, ↓pRng2, ↓pTry, ↓pTryAs, ↓oEq, ↓oNe, ↓oLen, ↓oSum, ↓oAll, ↓oAny, ↓oIsi, start0, List.map_cons, List.map_nil, List.length_cons, List.length_nil, List.cons_append, List.nil_append, List.getElem?_cons_zero, List.getElem?_cons_succ, List.set_cons_zero, List.set_cons_succ, List.replicate, D.bl.injEq, D.int.injEq, D.str.injEq, D.tup.injEq, D.lst.injEq, exists_eq_left', exists_eq_left, Option.some.injEq, Bool.false_eq_true, if_true, if_false, true_and, and_true, false_and, and_false, isi_int, isi_bool, isi_str, isi_tuple, isi_list, isiT_int, isiT_bool, isiT_str, isiT_tuple, isiT_list, Bool.not_true, Bool.not_false, dat_non, dat_bl, dat_int, dat_str, dat_tup, dat_lst, isInt_non, isInt_bl, isInt_int, isInt_str, isInt_tup, isInt_lst, isBool_non, isBool_bl, isBool_int, isBool_str, isBool_tup, isBool_lst, isStr_non, isStr_bl, isStr_int, isStr_str, isStr_tup, isStr_lst, isTup_non, isTup_bl, isTup_int, isTup_str, isTup_tup, isTup_lst, isLst_non, isLst_bl, isLst_int, isLst_str, isLst_tup, isLst_lst, Nat.reduceAdd, Nat.zero_add, sz_0, sz_1, sz_2, sz_3, sz_4, sz_5, sz_6, sz_7, sz_8, sz_9, sz_10, sz_11, sz_12, List.any_cons, List.any_nil, eqD_tup, eqD_str, eqD_int, eqDs_cons, eqDs_nil, eqDs_cn, eqDs_nc, Bool.or_false, Bool.and_true, at0, at1, at2, at3, at4, good_int, good_bl, good_nil, good_nilL, good_non, eqDs_nil_r, eqDs_nil_l, List.isEmpty_nil, List.isEmpty_cons, Bool.and_false, Bool.or_true, Bool.false_or, Bool.true_or, Bool.false_and, Bool.true_and, encB, wipS_mk, List.foldr_cons, List.foldr_nil, con_updW, ↓ixC_ownD, ↓oIx_tup, ↓oIx_lst, ↓oIx_str, ↓lenC_ownL, ↓lenC_ownD, ↓setC_ownD, putC_adr, Own_lst_inj, Con_own_inj, updW_upd, Nat.reduceSub, Nat.sub_self, ↓itD_lst, ↓itD_tup, ↓oInt_i, ↓oCmp_i, ↓oAdd_i, ↓oAdd_s, ↓oAdd_t, ↓oAdd_l, ↓oNeg_i, ↓o1I_i, ↓o2I_i, ↓oSl_t, ↓oSl_l, ↓oList_t, ↓oList_l, ↓oTuple_t, ↓oTuple_l, ↓oIn_t, ↓oIn_l, ↓oIsN_n, ↓ixC_ownLi, ↓setC_ownLi, ixN20, ixN21, ex_int1, ex_int2, ↓pSet_eq, ↓ixK_tup, ↓ixK_lst, ↓ixK_str, ↓ixK_dct, ↓lenK_tup, ↓lenK_lst, ↓lenK_str, ↓pSetO_eq, ↓pPar_eq, ↓kPar_mk, ↓pVarV0, ↓pVarV1, ↓pVarV2, ↓pVarV3, ↓pVarV4, ↓pVarV5, ↓pVarV6, ↓pVarV7, ↓pVarV8, ↓pVarV9, ↓pVarV10, ↓pVarL0, ↓pVarL1, ↓pVarL2, ↓pVarL3, ↓pVarL4, ↓pVarL5, ↓pVarL6, ↓pVarL7, ↓pVarL8, ↓pVarL9, ↓pVarL10, ↓pVarD0, ↓pVarD1, ↓pVarD2, ↓pVarD3, ↓pVarD4, ↓pVarD5, ↓pVarD6, ↓pVarD7, ↓pVarD8, ↓pVarD9, ↓pVarD10, ↓pkVarV0, ↓pkVarV1, ↓pkVarV2, ↓pkVarV3, ↓pkVarV4, ↓pkVarV5, ↓pkVarV6, ↓pkVarV7, ↓pkVarV8, ↓pkVarV9, ↓pkVarV10, ↓pkVarO0, ↓pkVarO1, ↓pkVarO2, ↓pkVarO3, ↓pkVarO4, ↓pkVarO5, ↓pkVarO6, ↓pkVarO7, ↓pkVarO8, ↓pkVarO9, ↓pkVarO10, ↓kSetN0, ↓kSetN1, ↓kSetN2, ↓kSetN3, ↓kSetN4, ↓kSetN5, ↓kSetN6, ↓kSetN7, ↓kSetN8, ↓kSetN9, ↓kSetN10, ↓kSetO_N0, ↓kSetO_N1, ↓kSetO_N2, ↓kSetO_N3, ↓kSetO_N4, ↓kSetO_N5, ↓kSetO_N6, ↓kSetO_N7, ↓kSetO_N8, ↓kSetO_N9, ↓kSetO_N10, ↓pgNameN0, ↓pgNameN1, ↓pgNameN2, ↓pgNameN3, ↓pgNameN4, ↓pgNameN5, ↓pgNameN6, ↓pgNameN7, ↓pgNameN8, ↓pgNameN9, ↓pgNameN10, ↓ixS0, ↓ixS1, ↓ixS2, ↓ixS3, ↓ixS4, ↓ixS5, ↓ixS6, ↓ixS7, ↓ixS8, ↓ixS9, ↓ixS10, ↓lenS0, ↓lenS1, ↓lenS2, ↓lenS3, ↓lenS4, ↓lenS5, ↓lenS6, ↓lenS7, ↓lenS8, ↓lenS9, ↓lenS10, ↓setS0, ↓setS1, ↓setS2, ↓setS3, ↓setS4, ↓setS5, ↓setS6, ↓setS7, ↓setS8, ↓setS9, ↓setS10, ↓conS0, ↓conS1, ↓conS2, ↓conS3, ↓conS4, ↓conS5, ↓conS6, ↓conS7, ↓conS8, ↓conS9, ↓conS10, ↓putS0, ↓putS1, ↓putS2, ↓putS3, ↓putS4, ↓putS5, ↓putS6, ↓putS7, ↓putS8, ↓putS9, ↓putS10]
        refine forW_mem (fun S => ∃ s8, S = ⟨[.val (.lst (xs.map D.int)), .val (.int (0 + k)), .val (.adr a), .val (.int (0 + t)), .val (encL L), .val (.int (listedB L.body).length), s6, s7, s8, s9, s10], W2⟩) ?_ ?_ ⟨_, rfl⟩
        · rintro S ⟨s8, rfl⟩
          exact hK2 _ ⟨_, _, _, _, _, _, _, _, _, d2.src, rfl⟩
        · rintro d hd S K3 ⟨s8, rfl⟩ hK3
          try simp only [↓pC, ↓pOp, ↓pUn, ↓pSl, ↓pPart, ↓pNil, ↓pCons, ↓pTup, ↓pLst, ↓pCallB, ↓pTest, ↓pNot, ↓pAnd, ↓pOr, ↓pAndV, ↓pOrV, ↓pNotV, ↓pIf, ↓pNext, ↓pSeq, ↓pBreak, ↓pCont, ↓pDrop, ↓pRet, ↓pRetN, ↓pIfS, ↓pgNil, ↓pgCons, ↓pgTup, ↓pAsg, ↓pRaise, ↓pCall, ↓pIter, ↓pFor, ↓pLc, ↓pYes, ↓pkOf, ↓pIxK, ↓pTabG, ↓pLenK, ↓pChain, ↓pStore, ↓pAppend, ↓pPop, ↓poLst, ↓poDct, ↓pNewW, ↓pRng1, ↓pRng2, ↓pTry, ↓pTryAs, ↓oEq, ↓oNe, ↓oLen, ↓oSum, ↓oAll, ↓oAny, ↓oIsi, start0, List.map_cons, List.map_nil, List.length_cons, List.length_nil, List.cons_append, List.nil_append, List.getElem?_cons_zero, List.getElem?_cons_succ, List.set_cons_zero, List.set_cons_succ, List.replicate, D.bl.injEq, D.int.injEq, D.str.injEq, D.tup.injEq, D.lst.injEq, exists_eq_left', exists_eq_left, Option.some.injEq, Bool.false_eq_true, if_true, if_false, true_and, and_true, false_and, and_false, isi_int, isi_bool, isi_str, isi_tuple, isi_list, isiT_int, isiT_bool, isiT_str, isiT_tuple, isiT_list, Bool.not_true, Bool.not_false, dat_non, dat_bl, dat_int, dat_str, dat_tup, dat_lst, isInt_non, isInt_bl, isInt_int, isInt_str, isInt_tup, isInt_lst, isBool_non, isBool_bl, isBool_int, isBool_str, isBool_tup, isBool_lst, isStr_non, isStr_bl, isStr_int, isStr_str, isStr_tup, isStr_lst, isTup_non, isTup_bl, isTup_int, isTup_str, isTup_tup, isTup_lst, isLst_non, isLst_bl, isLst_int, isLst_str, isLst_tup, isLst_lst, Nat.reduceAdd, Nat.zero_add, sz_0, sz_1, sz_2, sz_3, sz_4, sz_5, sz_6, sz_7, sz_8, sz_9, sz_10, sz_11, sz_12, List.any_cons, List.any_nil, eqD_tup, eqD_str, eqD_int, eqDs_cons, eqDs_nil, eqDs_cn, eqDs_nc, Bool.or_false, Bool.and_true, at0, at1, at2, at3, at4, good_int, good_bl, good_nil, good_nilL, good_non, eqDs_nil_r, eqDs_nil_l, List.isEmpty_nil, List.isEmpty_cons, Bool.and_false, Bool.or_true, Bool.false_or, Bool.true_or, Bool.false_and, Bool.true_and, encB, wipS_mk, List.foldr_cons, List.foldr_nil, con_updW, ↓ixC_ownD, ↓oIx_tup, ↓oIx_lst, ↓oIx_str, ↓lenC_ownL, ↓lenC_ownD, ↓setC_ownD, putC_adr, Own_lst_inj, Con_own_inj, updW_upd, Nat.reduceSub, Nat.sub_self, ↓itD_lst, ↓itD_tup, ↓oInt_i, ↓oCmp_i, ↓oAdd_i, ↓oAdd_s, ↓oAdd_t, ↓oAdd_l, ↓oNeg_i, ↓o1I_i, ↓o2I_i, ↓oSl_t, ↓oSl_l, ↓oList_t, ↓oList_l, ↓oTuple_t, ↓oTuple_l, ↓oIn_t, ↓oIn_l, ↓oIsN_n, ↓ixC_ownLi, ↓setC_ownLi, ixN20, ixN21, ex_int1, ex_int2, ↓pSet_eq, ↓ixK_tup, ↓ixK_lst, ↓ixK_str, ↓ixK_dct, ↓lenK_tup, ↓lenK_lst, ↓lenK_str, ↓pSetO_eq, ↓pPar_eq, ↓kPar_mk, ↓pVarV0, ↓pVarV1, ↓pVarV2, ↓pVarV3, ↓pVarV4, ↓pVarV5, ↓pVarV6, ↓pVarV7, ↓pVarV8, ↓pVarV9, ↓pVarV10, ↓pVarL0, ↓pVarL1, ↓pVarL2, ↓pVarL3, ↓pVarL4, ↓pVarL5, ↓pVarL6, ↓pVarL7, ↓pVarL8, ↓pVarL9, ↓pVarL10, ↓pVarD0, ↓pVarD1, ↓pVarD2, ↓pVarD3, ↓pVarD4, ↓pVarD5, ↓pVarD6, ↓pVarD7, ↓pVarD8, ↓pVarD9, ↓pVarD10, ↓pkVarV0, ↓pkVarV1, ↓pkVarV2, ↓pkVarV3, ↓pkVarV4, ↓pkVarV5, ↓pkVarV6, ↓pkVarV7, ↓pkVarV8, ↓pkVarV9, ↓pkVarV10, ↓pkVarO0, ↓pkVarO1, ↓pkVarO2, ↓pkVarO3, ↓pkVarO4, ↓pkVarO5, ↓pkVarO6, ↓pkVarO7, ↓pkVarO8, ↓pkVarO9, ↓pkVarO10, ↓kSetN0, ↓kSetN1, ↓kSetN2, ↓kSetN3, ↓kSetN4, ↓kSetN5, ↓kSetN6, ↓kSetN7, ↓kSetN8, ↓kSetN9, ↓kSetN10, ↓kSetO_N0, ↓kSetO_N1, ↓kSetO_N2, ↓kSetO_N3, ↓kSetO_N4, ↓kSetO_N5, ↓kSetO_N6, ↓kSetO_N7, ↓kSetO_N8, ↓kSetO_N9, ↓kSetO_N10, ↓pgNameN0, ↓pgNameN1, ↓pgNameN2, ↓pgNameN3, ↓pgNameN4, ↓pgNameN5, ↓pgNameN6, ↓pgNameN7, ↓pgNameN8, ↓pgNameN9, ↓pgNameN10, ↓ixS0, ↓ixS1, ↓ixS2, ↓ixS3, ↓ixS4, ↓ixS5, ↓ixS6, ↓ixS7, ↓ixS8, ↓ixS9, ↓ixS10, ↓lenS0, ↓lenS1, ↓lenS2, ↓lenS3, ↓lenS4, ↓lenS5, ↓lenS6, ↓lenS7, ↓lenS8, ↓lenS9, ↓lenS10, ↓setS0, ↓setS1, ↓setS2, ↓setS3, ↓setS4, ↓setS5, ↓setS6, ↓setS7, ↓setS8, ↓setS9, ↓setS10, ↓conS0, ↓conS1, ↓conS2, ↓conS3, ↓conS4, ↓conS5, ↓conS6, ↓conS7, ↓conS8, ↓conS9, ↓conS10, ↓putS0, ↓putS1, ↓putS2, ↓putS3, ↓putS4, ↓putS5, ↓putS6, ↓putS7, ↓putS8, ↓putS9, ↓putS10]
          refine ⟨L, d, rfl, hL.1, ?_, ?_, ?_⟩
          · simp only [List.mem_cons, List.not_mem_nil, or_false] at hd
            rcases hd with rfl | rfl | rfl | rfl | rfl | rfl | rfl <;> rfl
          · simp only [List.mem_cons, List.not_mem_nil, or_false] at hd
            rcases hd with rfl | rfl | rfl | rfl | rfl | rfl | rfl <;> first | rfl | (simp [isNum]; omega)
          · try simp only [↓pC, ↓pOp, ↓pUn, ↓pSl, ↓pPart, ↓pNil, ↓pCons, ↓pTup, ↓pLst, ↓pCallB, ↓pTest, ↓pNot, ↓pAnd, ↓pOr, ↓pAndV, ↓pOrV, ↓pNotV, ↓pIf, ↓pNext, ↓pSeq, ↓pBreak, ↓pCont, ↓pDrop, ↓pRet, ↓pRetN, ↓pIfS, ↓pgNil, ↓pgCons, ↓pgTup, ↓pAsg, ↓pRaise, ↓pCall, ↓pIter, ↓pFor, ↓pLc, ↓pYes, ↓pkOf, ↓pIxK, ↓pTabG, ↓pLenK, ↓pChain, ↓pStore, ↓pAppend, ↓pPop, ↓poLst, ↓poDct, ↓pNewW, ↓pRng1, ↓pRng2, ↓pTry, ↓pTryAs, ↓oEq, ↓oNe, ↓oLen, ↓oSum, ↓oAll, ↓oAny, ↓oIsi, start0, List.map_cons, List.map_nil, List.length_cons, List.length_nil, List.cons_append, List.nil_append, List.getElem?_cons_zero, List.getElem?_cons_succ, List.set_cons_zero, List.set_cons_succ, List.replicate, D.bl.injEq, D.int.injEq, D.str.injEq, D.tup.injEq, D.lst.injEq, exists_eq_left', exists_eq_left, Option.some.injEq, Bool.false_eq_true, if_true, if_false, true_and, and_true, false_and, and_false, isi_int, isi_bool, isi_str, isi_tuple, isi_list, isiT_int, isiT_bool, isiT_str, isiT_tuple, isiT_list, Bool.not_true, Bool.not_false, dat_non, dat_bl, dat_int, dat_str, dat_tup, dat_lst, isInt_non, isInt_bl, isInt_int, isInt_str, isInt_tup, isInt_lst, isBool_non, isBool_bl, isBool_int, isBool_str, isBool_tup, isBool_lst, isStr_non, isStr_bl, isStr_int, isStr_str, isStr_tup, isStr_lst, isTup_non, isTup_bl, isTup_int, isTup_str, isTup_tup, isTup_lst, isLst_non, isLst_bl, isLst_int, isLst_str, isLst_tup, isLst_lst, Nat.reduceAdd, Nat.zero_add, sz_0, sz_1, sz_2, sz_3, sz_4, sz_5, sz_6, sz_7, sz_8, sz_9, sz_10, sz_11, sz_12, List.any_cons, List.any_nil, eqD_tup, eqD_str, eqD_int, eqDs_cons, eqDs_nil, eqDs_cn, eqDs_nc, Bool.or_false, Bool.and_true, at0, at1, at2, at3, at4, good_int, good_bl, good_nil, good_nilL, good_non, eqDs_nil_r, eqDs_nil_l, List.isEmpty_nil, List.isEmpty_cons, Bool.and_false, Bool.or_true, Bool.false_or, Bool.true_or, Bool.false_and, Bool.true_and, encB, wipS_mk, List.foldr_cons, List.foldr_nil, con_updW, ↓ixC_ownD, ↓oIx_tup, ↓oIx_lst, ↓oIx_str, ↓lenC_ownL, ↓lenC_ownD, ↓setC_ownD, putC_adr, Own_lst_inj, Con_own_inj, updW_upd, Nat.reduceSub, Nat.sub_self, ↓itD_lst, ↓itD_tup, ↓oInt_i, ↓oCmp_i, ↓oAdd_i, ↓oAdd_s, ↓oAdd_t, ↓oAdd_l, ↓oNeg_i, ↓o1I_i, ↓o2I_i, ↓oSl_t, ↓oSl_l, ↓oList_t, ↓oList_l, ↓oTuple_t, ↓oTuple_l, ↓oIn_t, ↓oIn_l, ↓oIsN_n, ↓ixC_ownLi, ↓setC_ownLi, ixN20, ixN21, ex_int1, ex_int2, ↓pSet_eq, ↓ixK_tup, ↓ixK_lst, ↓ixK_str, ↓ixK_dct, ↓lenK_tup, ↓lenK_lst, ↓lenK_str, ↓pSetO_eq, ↓pPar_eq, ↓kPar_mk, ↓pVarV0, ↓pVarV1, ↓pVarV2, ↓pVarV3, ↓pVarV4, ↓pVarV5, ↓pVarV6, ↓pVarV7, ↓pVarV8, ↓pVarV9, ↓pVarV10, ↓pVarL0, ↓pVarL1, ↓pVarL2, ↓pVarL3, ↓pVarL4, ↓pVarL5, ↓pVarL6, ↓pVarL7, ↓pVarL8, ↓pVarL9, ↓pVarL10, ↓pVarD0, ↓pVarD1, ↓pVarD2, ↓pVarD3, ↓pVarD4, ↓pVarD5, ↓pVarD6, ↓pVarD7, ↓pVarD8, ↓pVarD9, ↓pVarD10, ↓pkVarV0, ↓pkVarV1, ↓pkVarV2, ↓pkVarV3, ↓pkVarV4, ↓pkVarV5, ↓pkVarV6, ↓pkVarV7, ↓pkVarV8, ↓pkVarV9, ↓pkVarV10, ↓pkVarO0, ↓pkVarO1, ↓pkVarO2, ↓pkVarO3, ↓pkVarO4, ↓pkVarO5, ↓pkVarO6, ↓pkVarO7, ↓pkVarO8, ↓pkVarO9, ↓pkVarO10, ↓kSetN0, ↓kSetN1, ↓kSetN2, ↓kSetN3, ↓kSetN4, ↓kSetN5, ↓kSetN6, ↓kSetN7, ↓kSetN8, ↓kSetN9, ↓kSetN10, ↓kSetO_N0, ↓kSetO_N1, ↓kSetO_N2, ↓kSetO_N3, ↓kSetO_N4, ↓kSetO_N5, ↓kSetO_N6, ↓kSetO_N7, ↓kSetO_N8, ↓kSetO_N9, ↓kSetO_N10, ↓pgNameN0, ↓pgNameN1, ↓pgNameN2, ↓pgNameN3, ↓pgNameN4, ↓pgNameN5, ↓pgNameN6, ↓pgNameN7, ↓pgNameN8, ↓pgNameN9, ↓pgNameN10, ↓ixS0, ↓ixS1, ↓ixS2, ↓ixS3, ↓ixS4, ↓ixS5, ↓ixS6, ↓ixS7, ↓ixS8, ↓ixS9, ↓ixS10, ↓lenS0, ↓lenS1, ↓lenS2, ↓lenS3, ↓lenS4, ↓lenS5, ↓lenS6, ↓lenS7, ↓lenS8, ↓lenS9, ↓lenS10, ↓setS0, ↓setS1, ↓setS2, ↓setS3, ↓setS4, ↓setS5, ↓setS6, ↓setS7, ↓setS8, ↓setS9, ↓setS10, ↓conS0, ↓conS1, ↓conS2, ↓conS3, ↓conS4, ↓conS5, ↓conS6, ↓conS7, ↓conS8, ↓conS9, ↓conS10, ↓putS0, ↓putS1, ↓putS2, ↓putS3, ↓putS4, ↓putS5, ↓putS6, ↓putS7, ↓putS8, ↓putS9, ↓putS10]
            exact hK3 _ ⟨_, rfl⟩
      · rintro i S K3 hi ⟨s6, s7, s8, s9, s10, rfl⟩ hK3
        try simp only [↓pC, ↓pOp, ↓pUn, ↓pSl, ↓pPart, ↓pNil, ↓pCons, ↓pTup, ↓pLst, ↓pCallB, ↓pTest, ↓pNot, ↓pAnd, ↓pOr, ↓pAndV, ↓pOrV, ↓pNotV, ↓pIf, ↓pNext, ↓pSeq, ↓pBreak, ↓pCont, ↓pDrop, ↓pRet, ↓pRetN, ↓pIfS, ↓pgNil, ↓pgCons, ↓pgTup, ↓pAsg, ↓pRaise, ↓pCall, ↓pIter, ↓pFor, ↓pLc, ↓pYes, ↓pkOf, ↓pIxK, ↓pTabG, ↓pLenK, ↓pChain, ↓pStore, ↓pAppend, ↓pPop, ↓poLst, ↓poDct, ↓pNewW, ↓pRng1, ↓pRng2, ↓pTry, ↓pTryAs, ↓oEq, ↓oNe, ↓oLen, ↓oSum, ↓oAll, ↓oAny, ↓oIsi, start0, List.map_cons, List.map_nil, List.length_cons, List.length_nil, List.cons_append, List.nil_append, List.getElem?_cons_zero, List.getElem?_cons_succ, List.set_cons_zero, List.set_cons_succ, List.replicate, D.bl.injEq, D.int.injEq, D.str.injEq, D.tup.injEq, D.lst.injEq, exists_eq_left', exists_eq_left, Option.some.injEq, Bool.false_eq_true, if_true, if_false, true_and, and_true, false_and, and_false, isi_int, isi_bool, isi_str, isi_tuple, isi_list, isiT_int, isiT_bool, isiT_str, isiT_tuple, isiT_list, Bool.not_true, Bool.not_false, dat_non, dat_bl, dat_int, dat_str, dat_tup, dat_lst, isInt_non, isInt_bl, isInt_int, isInt_str, isInt_tup, isInt_lst, isBool_non, isBool_bl, isBool_int, isBool_str, isBool_tup, isBool_lst, isStr_non, isStr_bl, isStr_int, isStr_str, isStr_tup, isStr_lst, isTup_non, isTup_bl, isTup_int, isTup_str, isTup_tup, isTup_lst, isLst_non, isLst_bl, isLst_int, isLst_str, isLst_tup, isLst_lst, Nat.reduceAdd, Nat.zero_add, sz_0, sz_1, sz_2, sz_3, sz_4, sz_5, sz_6, sz_7, sz_8, sz_9, sz_10, sz_11, sz_12, List.any_cons, List.any_nil, eqD_tup, eqD_str, eqD_int, eqDs_cons, eqDs_nil, eqDs_cn, eqDs_nc, Bool.or_false, Bool.and_true, at0, at1, at2, at3, at4, good_int, good_bl, good_nil, good_nilL, good_non, eqDs_nil_r, eqDs_nil_l, List.isEmpty_nil, List.isEmpty_cons, Bool.and_false, Bool.or_true, Bool.false_or, Bool.true_or, Bool.false_and, Bool.true_and, encB, wipS_mk, List.foldr_cons, List.foldr_nil, con_updW, ↓ixC_ownD, ↓oIx_tup, ↓oIx_lst, ↓oIx_str, ↓lenC_ownL, ↓lenC_ownD, ↓setC_ownD, putC_adr, Own_lst_inj, Con_own_inj, updW_upd, Nat.reduceSub, Nat.sub_self, ↓itD_lst, ↓itD_tup, ↓oInt_i, ↓oCmp_i, ↓oAdd_i, ↓oAdd_s, ↓oAdd_t, ↓oAdd_l, ↓oNeg_i, ↓o1I_i, ↓o2I_i, ↓oSl_t, ↓oSl_l, ↓oList_t, ↓oList_l, ↓oTuple_t, ↓oTuple_l, ↓oIn_t, ↓oIn_l, ↓oIsN_n, ↓ixC_ownLi, ↓setC_ownLi, ixN20, ixN21, ex_int1, ex_int2, ↓pSet_eq, ↓ixK_tup, ↓ixK_lst, ↓ixK_str, ↓ixK_dct, ↓lenK_tup, ↓lenK_lst, ↓lenK_str, ↓pSetO_eq, ↓pPar_eq, ↓kPar_mk, ↓pVarV0, ↓pVarV1, ↓pVarV2, ↓pVarV3, ↓pVarV4, ↓pVarV5, ↓pVarV6, ↓pVarV7, ↓pVarV8, ↓pVarV9, ↓pVarV10, ↓pVarL0, ↓pVarL1, ↓pVarL2, ↓pVarL3, ↓pVarL4, ↓pVarL5, ↓pVarL6, ↓pVarL7, ↓pVarL8, ↓pVarL9, ↓pVarL10, ↓pVarD0, ↓pVarD1, ↓pVarD2, ↓pVarD3, ↓pVarD4, ↓pVarD5, ↓pVarD6, ↓pVarD7, ↓pVarD8, ↓pVarD9, ↓pVarD10, ↓pkVarV0, ↓pkVarV1, ↓pkVarV2, ↓pkVarV3, ↓pkVarV4, ↓pkVarV5, ↓pkVarV6, ↓pkVarV7, ↓pkVarV8, ↓pkVarV9, ↓pkVarV10, ↓pkVarO0, ↓pkVarO1, ↓pkVarO2, ↓pkVarO3, ↓pkVarO4, ↓pkVarO5, ↓pkVarO6, ↓pkVarO7, ↓pkVarO8, ↓pkVarO9, ↓pkVarO10, ↓kSetN0, ↓kSetN1, ↓kSetN2, ↓kSetN3, ↓kSetN4, ↓kSetN5, ↓kSetN6, ↓kSetN7, ↓kSetN8, ↓kSetN9, ↓kSetN10, ↓kSetO_N0, ↓kSetO_N1, ↓kSetO_N2, ↓kSetO_N3, ↓kSetO_N4, ↓kSetO_N5, ↓kSetO_N6, ↓kSetO_N7, ↓kSetO_N8, ↓kSetO_N9, ↓kSetO_N10, ↓pgNameN0, ↓pgNameN1, ↓pgNameN2, ↓pgNameN3, ↓pgNameN4, ↓pgNameN5, ↓pgNameN6, ↓pgNameN7, ↓pgNameN8, ↓pgNameN9, ↓pgNameN10, ↓ixS0, ↓ixS1, ↓ixS2, ↓ixS3, ↓ixS4, ↓ixS5, ↓ixS6, ↓ixS7, ↓ixS8, ↓ixS9, ↓ixS10, ↓lenS0, ↓lenS1, ↓lenS2, ↓lenS3, ↓lenS4, ↓lenS5, ↓lenS6, ↓lenS7, ↓lenS8, ↓lenS9, ↓lenS10, ↓setS0, ↓setS1, ↓setS2, ↓setS3, ↓setS4, ↓setS5, ↓setS6, ↓setS7, ↓setS8, ↓setS9, ↓setS10, ↓conS0, ↓conS1, ↓conS2, ↓conS3, ↓conS4, ↓conS5, ↓conS6, ↓conS7, ↓conS8, ↓conS9, ↓conS10, ↓putS0, ↓putS1, ↓putS2, ↓putS3, ↓putS4, ↓putS5, ↓putS6, ↓putS7, ↓putS8, ↓putS9, ↓putS10]
        have hin : inR 0 ((listedB L.body).length - 1) (0 + i) = true := by simp only [inR, Bool.and_eq_true, decide_eq_true_eq]; omega
        have hz := (woB_size L.body 0 (0 + i)).2 (by omega) (by omega)
        have gl := good_L (less_ok (n := 0 + i) hL.1)
        refine ⟨encL L, _, rfl, good_L hL.1, rfl, fun h => ?_, fun _ => ⟨L, hL.1, rfl, fun h => ?_, fun k hk _ => ?_⟩⟩
        · rw [isLoop_iff.mpr ⟨L, hL.1, rfl⟩] at h; cases h
        · rw [isNum_iff.mpr ⟨_, hin, rfl⟩] at h; cases h
        · cases hk
          try simp only [↓pC, ↓pOp, ↓pUn, ↓pSl, ↓pPart, ↓pNil, ↓pCons, ↓pTup, ↓pLst, ↓pCallB, ↓pTest, ↓pNot, ↓pAnd, ↓pOr, ↓pAndV, ↓pOrV, ↓pNotV, ↓pIf, ↓pNext, ↓pSeq, ↓pBreak, ↓pCont, ↓pDrop, ↓pRet, ↓pRetN, ↓pIfS, ↓pgNil, ↓pgCons, ↓pgTup, ↓pAsg, ↓pRaise, ↓pCall, ↓pIter, ↓pFor, ↓pLc, ↓pYes, ↓pkOf, ↓pIxK, ↓pTabG, ↓pLenK, ↓pChain, ↓pStore, ↓pAppend, ↓pPop, ↓poLst, ↓poDct, ↓pNewW, ↓pRng1, ↓pRng2, ↓pTry, ↓pTryAs, ↓oEq, ↓oNe, ↓oLen, ↓oSum, ↓oAll, ↓oAny, ↓oIsi, start0, List.map_cons, List.map_nil, List.length_cons, List.length_nil, List.cons_append, List.nil_append, List.getElem?_cons_zero, List.getElem?_cons_succ, List.set_cons_zero, List.set_cons_succ, List.replicate, D.bl.injEq, D.int.injEq, D.str.injEq, D.tup.injEq, D.lst.injEq, exists_eq_left', exists_eq_left, Option.some.injEq, Bool.false_eq_true, if_true, if_false, true_and, and_true, false_and, and_false, isi_int, isi_bool, isi_str, isi_tuple, isi_list, isiT_int, isiT_bool, isiT_str, isiT_tuple, isiT_list, Bool.not_true, Bool.not_false, dat_non, dat_bl, dat_int, dat_str, dat_tup, dat_lst, isInt_non, isInt_bl, isInt_int, isInt_str, isInt_tup, isInt_lst, isBool_non, isBool_bl, isBool_int, isBool_str, isBool_tup, isBool_lst, isStr_non, isStr_bl, isStr_int, isStr_str, isStr_tup, isStr_lst, isTup_non, isTup_bl, isTup_int, isTup_str, isTup_tup, isTup_lst, isLst_non, isLst_bl, isLst_int, isLst_str, isLst_tup, isLst_lst, Nat.reduceAdd, Nat.zero_add, sz_0, sz_1, sz_2, sz_3, sz_4, sz_5, sz_6, sz_7, sz_8, sz_9, sz_10, sz_11, sz_12, List.any_cons, List.any_nil, eqD_tup, eqD_str, eqD_int, eqDs_cons, eqDs_nil, eqDs_cn, eqDs_nc, Bool.or_false, Bool.and_true, at0, at1, at2, at3, at4, good_int, good_bl, good_nil, good_nilL, good_non, eqDs_nil_r, eqDs_nil_l, List.isEmpty_nil, List.isEmpty_cons, Bool.and_false, Bool.or_true, Bool.false_or, Bool.true_or, Bool.false_and, Bool.true_and, encB, wipS_mk, List.foldr_cons, List.foldr_nil, con_updW, ↓ixC_ownD, ↓oIx_tup, ↓oIx_lst, ↓oIx_str, ↓lenC_ownL, ↓lenC_ownD, ↓setC_ownD, putC_adr, Own_lst_inj, Con_own_inj, updW_upd, Nat.reduceSub, Nat.sub_self, ↓itD_lst, ↓itD_tup, ↓oInt_i, ↓oCmp_i, ↓oAdd_i, ↓oAdd_s, ↓oAdd_t, ↓oAdd_l, ↓oNeg_i, ↓o1I_i, ↓o2I_i, ↓oSl_t, ↓oSl_l, ↓oList_t, ↓oList_l, ↓oTuple_t, ↓oTuple_l, ↓oIn_t, ↓oIn_l, ↓oIsN_n, ↓ixC_ownLi, ↓setC_ownLi, ixN20, ixN21, ex_int1, ex_int2, ↓pSet_eq, ↓ixK_tup, ↓ixK_lst, ↓ixK_str, ↓ixK_dct, ↓lenK_tup, ↓lenK_lst, ↓lenK_str, ↓pSetO_eq, ↓pPar_eq, ↓kPar_mk, ↓pVarV0, ↓pVarV1, ↓pVarV2, ↓pVarV3, ↓pVarV4, ↓pVarV5, ↓pVarV6, ↓pVarV7, ↓pVarV8, ↓pVarV9, ↓pVarV10, ↓pVarL0, ↓pVarL1, ↓pVarL2, ↓pVarL3, ↓pVarL4, ↓pVarL5, ↓pVarL6, ↓pVarL7, ↓pVarL8, ↓pVarL9, ↓pVarL10, ↓pVarD0, ↓pVarD1, ↓pVarD2, ↓pVarD3, ↓pVarD4, ↓pVarD5, ↓pVarD6, ↓pVarD7, ↓pVarD8, ↓pVarD9, ↓pVarD10, ↓pkVarV0, ↓pkVarV1, ↓pkVarV2, ↓pkVarV3, ↓pkVarV4, ↓pkVarV5, ↓pkVarV6, ↓pkVarV7, ↓pkVarV8, ↓pkVarV9, ↓pkVarV10, ↓pkVarO0, ↓pkVarO1, ↓pkVarO2, ↓pkVarO3, ↓pkVarO4, ↓pkVarO5, ↓pkVarO6, ↓pkVarO7, ↓pkVarO8, ↓pkVarO9, ↓pkVarO10, ↓kSetN0, ↓kSetN1, ↓kSetN2, ↓kSetN3, ↓kSetN4, ↓kSetN5, ↓kSetN6, ↓kSetN7, ↓kSetN8, ↓kSetN9, ↓kSetN10, ↓kSetO_N0, ↓kSetO_N1, ↓kSetO_N2, ↓kSetO_N3, ↓kSetO_N4, ↓kSetO_N5, ↓kSetO_N6, ↓kSetO_N7, ↓kSetO_N8, ↓kSetO_N9, ↓kSetO_N10, ↓pgNameN0, ↓pgNameN1, ↓pgNameN2, ↓pgNameN3, ↓pgNameN4, ↓pgNameN5, ↓pgNameN6, ↓pgNameN7, ↓pgNameN8, ↓pgNameN9, ↓pgNameN10, ↓ixS0, ↓ixS1, ↓ixS2, ↓ixS3, ↓ixS4, ↓ixS5, ↓ixS6, ↓ixS7, ↓ixS8, ↓ixS9, ↓ixS10, ↓lenS0, ↓lenS1, ↓lenS2, ↓lenS3, ↓lenS4, ↓lenS5, ↓lenS6, ↓lenS7, ↓lenS8, ↓lenS9, ↓lenS10, ↓setS0, ↓setS1, ↓setS2, ↓setS3, ↓setS4, ↓setS5, ↓setS6, ↓setS7, ↓setS8, ↓setS9, ↓setS10, ↓conS0, ↓conS1, ↓conS2, ↓conS3, ↓conS4, ↓conS5, ↓conS6, ↓conS7, ↓conS8, ↓conS9, ↓conS10, ↓putS0, ↓putS1, ↓putS2, ↓putS3, ↓putS4, ↓putS5, ↓putS6, ↓putS7, ↓putS8, ↓putS9, ↓putS10]
          refine ⟨L, _, rfl, hL.1, gl, gl, ?_⟩
          rw [eqD_refl _ (good_plain gl)]
          try simp only [↓pC, ↓pOp, ↓pUn, ↓pSl, ↓pPart, ↓pNil, ↓pCons, ↓pTup, ↓pLst, ↓pCallB, ↓pTest, ↓pNot, ↓pAnd, ↓pOr, ↓pAndV, ↓pOrV, ↓pNotV, ↓pIf, ↓pNext, ↓pSeq, ↓pBreak, ↓pCont, ↓pDrop, ↓pRet, ↓pRetN, ↓pIfS, ↓pgNil, ↓pgCons, ↓pgTup, ↓pAsg, ↓pRaise, ↓pCall, ↓pIter, ↓pFor, ↓pLc, ↓pYes, ↓pkOf, ↓pIxK, ↓pTabG, ↓pLenK, ↓pChain, ↓pStore, ↓pAppend, ↓pPop, ↓poLst, ↓poDct, ↓pNewW, ↓pRng1, ↓pRng2, ↓pTry, ↓pTryAs, ↓oEq, ↓oNe, ↓oLen, ↓oSum, ↓oAll, ↓oAny, ↓oIsi, start0, List.map_cons, List.map_nil, List.length_cons, List.length_nil, List.cons_append, List.nil_append, List.getElem?_cons_zero, List.getElem?_cons_succ, List.set_cons_zero, List.set_cons_succ, List.replicate, D.bl.injEq, D.int.injEq, D.str.injEq, D.tup.injEq, D.lst.injEq, exists_eq_left', exists_eq_left, Option.some.injEq, Bool.false_eq_true, if_true, if_false, true_and, and_true, false_and, and_false, isi_int, isi_bool, isi_str, isi_tuple, isi_list, isiT_int, isiT_bool, isiT_str, isiT_tuple, isiT_list, Bool.not_true, Bool.not_false, dat_non, dat_bl, dat_int, dat_str, dat_tup, dat_lst, isInt_non, isInt_bl, isInt_int, isInt_str, isInt_tup, isInt_lst, isBool_non, isBool_bl, isBool_int, isBool_str, isBool_tup, isBool_lst, isStr_non, isStr_bl, isStr_int, isStr_str, isStr_tup, isStr_lst, isTup_non, isTup_bl, isTup_int, isTup_str, isTup_tup, isTup_lst, isLst_non, isLst_bl, isLst_int, isLst_str, isLst_tup, isLst_lst, Nat.reduceAdd, Nat.zero_add, sz_0, sz_1, sz_2, sz_3, sz_4, sz_5, sz_6, sz_7, sz_8, sz_9, sz_10, sz_11, sz_12, List.any_cons, List.any_nil, eqD_tup, eqD_str, eqD_int, eqDs_cons, eqDs_nil, eqDs_cn, eqDs_nc, Bool.or_false, Bool.and_true, at0, at1, at2, at3, at4, good_int, good_bl, good_nil, good_nilL, good_non, eqDs_nil_r, eqDs_nil_l, List.isEmpty_nil, List.isEmpty_cons, Bool.and_false, Bool.or_true, Bool.false_or, Bool.true_or, Bool.false_and, Bool.true_and, encB, wipS_mk, List.foldr_cons, List.foldr_nil, con_updW, ↓ixC_ownD, ↓oIx_tup, ↓oIx_lst, ↓oIx_str, ↓lenC_ownL, ↓lenC_ownD, ↓setC_ownD, putC_adr, Own_lst_inj, Con_own_inj, updW_upd, Nat.reduceSub, Nat.sub_self, ↓itD_lst, ↓itD_tup, ↓oInt_i, ↓oCmp_i, ↓oAdd_i, ↓oAdd_s, ↓oAdd_t, ↓oAdd_l, ↓oNeg_i, ↓o1I_i, ↓o2I_i, ↓oSl_t, ↓oSl_l, ↓oList_t, ↓oList_l, ↓oTuple_t, ↓oTuple_l, ↓oIn_t, ↓oIn_l, ↓oIsN_n, ↓ixC_ownLi, ↓setC_ownLi, ixN20, ixN21, ex_int1, ex_int2, ↓pSet_eq, ↓ixK_tup, ↓ixK_lst, ↓ixK_str, ↓ixK_dct, ↓lenK_tup, ↓lenK_lst, ↓lenK_str, ↓pSetO_eq, ↓pPar_eq, ↓kPar_mk, ↓pVarV0, ↓pVarV1, ↓pVarV2, ↓pVarV3, ↓pVarV4, ↓pVarV5, ↓pVarV6, ↓pVarV7, ↓pVarV8, ↓pVarV9, ↓pVarV10, ↓pVarL0, ↓pVarL1, ↓pVarL2, ↓pVarL3, ↓pVarL4, ↓pVarL5, ↓pVarL6, ↓pVarL7, ↓pVarL8, ↓pVarL9, ↓pVarL10, ↓pVarD0, ↓pVarD1, ↓pVarD2, ↓pVarD3, ↓pVarD4, ↓pVarD5, ↓pVarD6, ↓pVarD7, ↓pVarD8, ↓pVarD9, ↓pVarD10, ↓pkVarV0, ↓pkVarV1, ↓pkVarV2, ↓pkVarV3, ↓pkVarV4, ↓pkVarV5, ↓pkVarV6, ↓pkVarV7, ↓pkVarV8, ↓pkVarV9, ↓pkVarV10, ↓pkVarO0, ↓pkVarO1, ↓pkVarO2, ↓pkVarO3, ↓pkVarO4, ↓pkVarO5, ↓pkVarO6, ↓pkVarO7, ↓pkVarO8, ↓pkVarO9, ↓pkVarO10, ↓kSetN0, ↓kSetN1, ↓kSetN2, ↓kSetN3, ↓kSetN4, ↓kSetN5, ↓kSetN6, ↓kSetN7, ↓kSetN8, ↓kSetN9, ↓kSetN10, ↓kSetO_N0, ↓kSetO_N1, ↓kSetO_N2, ↓kSetO_N3, ↓kSetO_N4, ↓kSetO_N5, ↓kSetO_N6, ↓kSetO_N7, ↓kSetO_N8, ↓kSetO_N9, ↓kSetO_N10, ↓pgNameN0, ↓pgNameN1, ↓pgNameN2, ↓pgNameN3, ↓pgNameN4, ↓pgNameN5, ↓pgNameN6, ↓pgNameN7, ↓pgNameN8, ↓pgNameN9, ↓pgNameN10, ↓ixS0, ↓ixS1, ↓ixS2, ↓ixS3, ↓ixS4, ↓ixS5, ↓ixS6, ↓ixS7, ↓ixS8, ↓ixS9, ↓ixS10, ↓lenS0, ↓lenS1, ↓lenS2, ↓lenS3, ↓lenS4, ↓lenS5, ↓lenS6, ↓lenS7, ↓lenS8, ↓lenS9, ↓lenS10, ↓setS0, ↓setS1, ↓setS2, ↓setS3, ↓setS4, ↓setS5, ↓setS6, ↓setS7, ↓setS8, ↓setS9, ↓setS10, ↓conS0, ↓conS1, ↓conS2, ↓conS3, ↓conS4, ↓conS5, ↓conS6, ↓conS7, ↓conS8, ↓conS9, ↓conS10, ↓putS0, ↓putS1, ↓putS2, ↓putS3, ↓putS4, ↓putS5, ↓putS6, ↓putS7, ↓putS8, ↓putS9, ↓putS10]
          refine ⟨_, rfl, gl, _, rfl, ?_⟩
          rw [isLoop_iff.mpr ⟨_, less_ok hL.1, rfl⟩]
          try simp only [↓pC, ↓pOp, ↓pUn, ↓pSl, ↓pPart, ↓pNil, ↓pCons, ↓pTup, ↓pLst, ↓pCallB, ↓pTest, ↓pNot, ↓pAnd, ↓pOr, ↓pAndV, ↓pOrV, ↓pNotV, ↓pIf, ↓pNext, ↓pSeq, ↓pBreak, ↓pCont, ↓pDrop, ↓pRet, ↓pRetN, ↓pIfS, ↓pgNil, ↓pgCons, ↓pgTup, ↓pAsg, ↓pRaise, ↓pCall, ↓pIter, ↓pFor, ↓pLc, ↓pYes, ↓pkOf, ↓pIxK, ↓pTabG, ↓pLenK, ↓pChain, ↓pStore, ↓pAppend, ↓pPop, ↓poLst, ↓poDct, ↓pNewW, ↓pRng1, ↓pRng2, ↓pTry, ↓pTryAs, ↓oEq, ↓oNe, ↓oLen, ↓oSum, ↓oAll, ↓oAny, ↓oIsi, start0, List.map_cons, List.map_nil, List.length_cons, List.length_nil, List.cons_append, List.nil_append, List.getElem?_cons_zero, List.getElem?_cons_succ, List.set_cons_zero, List.set_cons_succ, List.replicate, D.bl.injEq, D.int.injEq, D.str.injEq, D.tup.injEq, D.lst.injEq, exists_eq_left', exists_eq_left, Option.some.injEq, Bool.false_eq_true, if_true, if_false, true_and, and_true, false_and, and_false, isi_int, isi_bool, isi_str, isi_tuple, isi_list, isiT_int, isiT_bool, isiT_str, isiT_tuple, isiT_list, Bool.not_true, Bool.not_false, dat_non, dat_bl, dat_int, dat_str, dat_tup, dat_lst, isInt_non, isInt_bl, isInt_int, isInt_str, isInt_tup, isInt_lst, isBool_non, isBool_bl, isBool_int, isBool_str, isBool_tup, isBool_lst, isStr_non, isStr_bl, isStr_int, isStr_str, isStr_tup, isStr_lst, isTup_non, isTup_bl, isTup_int, isTup_str, isTup_tup, isTup_lst, isLst_non, isLst_bl, isLst_int, isLst_str, isLst_tup, isLst_lst, Nat.reduceAdd, Nat.zero_add, sz_0, sz_1, sz_2, sz_3, sz_4, sz_5, sz_6, sz_7, sz_8, sz_9, sz_10, sz_11, sz_12, List.any_cons, List.any_nil, eqD_tup, eqD_str, eqD_int, eqDs_cons, eqDs_nil, eqDs_cn, eqDs_nc, Bool.or_false, Bool.and_true, at0, at1, at2, at3, at4, good_int, good_bl, good_nil, good_nilL, good_non, eqDs_nil_r, eqDs_nil_l, List.isEmpty_nil, List.isEmpty_cons, Bool.and_false, Bool.or_true, Bool.false_or, Bool.true_or, Bool.false_and, Bool.true_and, encB, wipS_mk, List.foldr_cons, List.foldr_nil, con_updW, ↓ixC_ownD, ↓oIx_tup, ↓oIx_lst, ↓oIx_str, ↓lenC_ownL, ↓lenC_ownD, ↓setC_ownD, putC_adr, Own_lst_inj, Con_own_inj, updW_upd, Nat.reduceSub, Nat.sub_self, ↓itD_lst, ↓itD_tup, ↓oInt_i, ↓oCmp_i, ↓oAdd_i, ↓oAdd_s, ↓oAdd_t, ↓oAdd_l, ↓oNeg_i, ↓o1I_i, ↓o2I_i, ↓oSl_t, ↓oSl_l, ↓oList_t, ↓oList_l, ↓oTuple_t, ↓oTuple_l, ↓oIn_t, ↓oIn_l, ↓oIsN_n, ↓ixC_ownLi, ↓setC_ownLi, ixN20, ixN21, ex_int1, ex_int2, ↓pSet_eq, ↓ixK_tup, ↓ixK_lst, ↓ixK_str, ↓ixK_dct, ↓lenK_tup, ↓lenK_lst, ↓lenK_str, ↓pSetO_eq, ↓pPar_eq, ↓kPar_mk, ↓pVarV0, ↓pVarV1, ↓pVarV2, ↓pVarV3, ↓pVarV4, ↓pVarV5, ↓pVarV6, ↓pVarV7, ↓pVarV8, ↓pVarV9, ↓pVarV10, ↓pVarL0, ↓pVarL1, ↓pVarL2, ↓pVarL3, ↓pVarL4, ↓pVarL5, ↓pVarL6, ↓pVarL7, ↓pVarL8, ↓pVarL9, ↓pVarL10, ↓pVarD0, ↓pVarD1, ↓pVarD2, ↓pVarD3, ↓pVarD4, ↓pVarD5, ↓pVarD6, ↓pVarD7, ↓pVarD8, ↓pVarD9, ↓pVarD10, ↓pkVarV0, ↓pkVarV1, ↓pkVarV2, ↓pkVarV3, ↓pkVarV4, ↓pkVarV5, ↓pkVarV6, ↓pkVarV7, ↓pkVarV8, ↓pkVarV9, ↓pkVarV10, ↓pkVarO0, ↓pkVarO1, ↓pkVarO2, ↓pkVarO3, ↓pkVarO4, ↓pkVarO5, ↓pkVarO6, ↓pkVarO7, ↓pkVarO8, ↓pkVarO9, ↓pkVarO10, ↓kSetN0, ↓kSetN1, ↓kSetN2, ↓kSetN3, ↓kSetN4, ↓kSetN5, ↓kSetN6, ↓kSetN7, ↓kSetN8, ↓kSetN9, ↓kSetN10, ↓kSetO_N0, ↓kSetO_N1, ↓kSetO_N2, ↓kSetO_N3, ↓kSetO_N4, ↓kSetO_N5, ↓kSetO_N6, ↓kSetO_N7, ↓kSetO_N8, ↓kSetO_N9, ↓kSetO_N10, ↓pgNameN0, ↓pgNameN1, ↓pgNameN2, ↓pgNameN3, ↓pgNameN4, ↓pgNameN5, ↓pgNameN6, ↓pgNameN7, ↓pgNameN8, ↓pgNameN9, ↓pgNameN10, ↓ixS0, ↓ixS1, ↓ixS2, ↓ixS3, ↓ixS4, ↓ixS5, ↓ixS6, ↓ixS7, ↓ixS8, ↓ixS9, ↓ixS10, ↓lenS0, ↓lenS1, ↓lenS2, ↓lenS3, ↓lenS4, ↓lenS5, ↓lenS6, ↓lenS7, ↓lenS8, ↓lenS9, ↓lenS10, ↓setS0, ↓setS1, ↓setS2, ↓setS3, ↓setS4, ↓setS5, ↓setS6, ↓setS7, ↓setS8, ↓setS9, ↓setS10, ↓conS0, ↓conS1, ↓conS2, ↓conS3, ↓conS4, ↓conS5, ↓conS6, ↓conS7, ↓conS8, ↓conS9, ↓conS10, ↓putS0, ↓putS1, ↓putS2, ↓putS3, ↓putS4, ↓putS5, ↓putS6, ↓putS7, ↓putS8, ↓putS9, ↓putS10]
          refine ⟨_, rfl, gl, fun _ => ⟨_, less_ok hL.1, rfl, ?_⟩, fun h => ?_⟩
          · try simp only [↓pC, ↓pOp, ↓pUn, ↓pSl, ↓pPart, ↓pNil, ↓pCons, ↓pTup, ↓pLst, ↓pCallB, ↓pTest, ↓pNot, ↓pAnd, ↓pOr, ↓pAndV, ↓pOrV, ↓pNotV, ↓pIf, ↓pNext, ↓pSeq, ↓pBreak, ↓pCont, ↓pDrop, ↓pRet, ↓pRetN, ↓pIfS, ↓pgNil, ↓pgCons, ↓pgTup, ↓pAsg, ↓pRaise, ↓pCall, ↓pIter, ↓pFor, ↓pLc, ↓pYes, ↓pkOf, ↓pIxK, ↓pTabG, ↓pLenK, ↓pChain, ↓pStore, ↓pAppend, ↓pPop, ↓poLst, ↓poDct, ↓pNewW, ↓pRng1, ↓pRng2, ↓pTry, ↓pTryAs, ↓oEq, ↓oNe, ↓oLen, ↓oSum, ↓oAll, ↓oAny, ↓oIsi, start0, List.map_cons, List.map_nil, List.length_cons, List.length_nil, List.cons_append, List.nil_append, List.getElem?_cons_zero, List.getElem?_cons_succ, List.set_cons_zero, List.set_cons_succ, List.replicate, D.bl.injEq, D.int.injEq, D.str.injEq, D.tup.injEq, D.lst.injEq, exists_eq_left', exists_eq_left, Option.some.injEq, Bool.false_eq_true, if_true, if_false, true_and, and_true, false_and, and_false, isi_int, isi_bool, isi_str, isi_tuple, isi_list, isiT_int, isiT_bool, isiT_str, isiT_tuple, isiT_list, Bool.not_true, Bool.not_false, dat_non, dat_bl, dat_int, dat_str, dat_tup, dat_lst, isInt_non, isInt_bl, isInt_int, isInt_str, isInt_tup, isInt_lst, isBool_non, isBool_bl, isBool_int, isBool_str, isBool_tup, isBool_lst, isStr_non, isStr_bl, isStr_int, isStr_str, isStr_tup, isStr_lst, isTup_non, isTup_bl, isTup_int, isTup_str, isTup_tup, isTup_lst, isLst_non, isLst_bl, isLst_int, isLst_str, isLst_tup, isLst_lst, Nat.reduceAdd, Nat.zero_add, sz_0, sz_1, sz_2, sz_3, sz_4, sz_5, sz_6, sz_7, sz_8, sz_9, sz_10, sz_11, sz_12, List.any_cons, List.any_nil, eqD_tup, eqD_str, eqD_int, eqDs_cons, eqDs_nil, eqDs_cn, eqDs_nc, Bool.or_false, Bool.and_true, at0, at1, at2, at3, at4, good_int, good_bl, good_nil, good_nilL, good_non, eqDs_nil_r, eqDs_nil_l, List.isEmpty_nil, List.isEmpty_cons, Bool.and_false, Bool.or_true, Bool.false_or, Bool.true_or, Bool.false_and, Bool.true_and, encB, wipS_mk, List.foldr_cons, List.foldr_nil, con_updW, ↓ixC_ownD, ↓oIx_tup, ↓oIx_lst, ↓oIx_str, ↓lenC_ownL, ↓lenC_ownD, ↓setC_ownD, putC_adr, Own_lst_inj, Con_own_inj, updW_upd, Nat.reduceSub, Nat.sub_self, ↓itD_lst, ↓itD_tup, ↓oInt_i, ↓oCmp_i, ↓oAdd_i, ↓oAdd_s, ↓oAdd_t, ↓oAdd_l, ↓oNeg_i, ↓o1I_i, ↓o2I_i, ↓oSl_t, ↓oSl_l, ↓oList_t, ↓oList_l, ↓oTuple_t, ↓oTuple_l, ↓oIn_t, ↓oIn_l, ↓oIsN_n, ↓ixC_ownLi, ↓setC_ownLi, ixN20, ixN21, ex_int1, ex_int2, ↓pSet_eq, ↓ixK_tup, ↓ixK_lst, ↓ixK_str, ↓ixK_dct, ↓lenK_tup, ↓lenK_lst, ↓lenK_str, ↓pSetO_eq, ↓pPar_eq, ↓kPar_mk, ↓pVarV0, ↓pVarV1, ↓pVarV2, ↓pVarV3, ↓pVarV4, ↓pVarV5, ↓pVarV6, ↓pVarV7, ↓pVarV8, ↓pVarV9, ↓pVarV10, ↓pVarL0, ↓pVarL1, ↓pVarL2, ↓pVarL3, ↓pVarL4, ↓pVarL5, ↓pVarL6, ↓pVarL7, ↓pVarL8, ↓pVarL9, ↓pVarL10, ↓pVarD0, ↓pVarD1, ↓pVarD2, ↓pVarD3, ↓pVarD4, ↓pVarD5, ↓pVarD6, ↓pVarD7, ↓pVarD8, ↓pVarD9, ↓pVarD10, ↓pkVarV0, ↓pkVarV1, ↓pkVarV2, ↓pkVarV3, ↓pkVarV4, ↓pkVarV5, ↓pkVarV6, ↓pkVarV7, ↓pkVarV8, ↓pkVarV9, ↓pkVarV10, ↓pkVarO0, ↓pkVarO1, ↓pkVarO2, ↓pkVarO3, ↓pkVarO4, ↓pkVarO5, ↓pkVarO6, ↓pkVarO7, ↓pkVarO8, ↓pkVarO9, ↓pkVarO10, ↓kSetN0, ↓kSetN1, ↓kSetN2, ↓kSetN3, ↓kSetN4, ↓kSetN5, ↓kSetN6, ↓kSetN7, ↓kSetN8, ↓kSetN9, ↓kSetN10, ↓kSetO_N0, ↓kSetO_N1, ↓kSetO_N2, ↓kSetO_N3, ↓kSetO_N4, ↓kSetO_N5, ↓kSetO_N6, ↓kSetO_N7, ↓kSetO_N8, ↓kSetO_N9, ↓kSetO_N10, ↓pgNameN0, ↓pgNameN1, ↓pgNameN2, ↓pgNameN3, ↓pgNameN4, ↓pgNameN5, ↓pgNameN6, ↓pgNameN7, ↓pgNameN8, ↓pgNameN9, ↓pgNameN10, ↓ixS0, ↓ixS1, ↓ixS2, ↓ixS3, ↓ixS4, ↓ixS5, ↓ixS6, ↓ixS7, ↓ixS8, ↓ixS9, ↓ixS10, ↓lenS0, ↓lenS1, ↓lenS2, ↓lenS3, ↓lenS4, ↓lenS5, ↓lenS6, ↓lenS7, ↓lenS8, ↓lenS9, ↓lenS10, ↓setS0, ↓setS1, ↓setS2, ↓setS3, ↓setS4, ↓setS5, ↓setS6, ↓setS7, ↓setS8, ↓setS9, ↓setS10, ↓conS0, ↓conS1, ↓conS2, ↓conS3, ↓conS4, ↓conS5, ↓conS6, ↓conS7, ↓conS8, ↓conS9, ↓conS10, ↓putS0, ↓putS1, ↓putS2, ↓putS3, ↓putS4, ↓putS5, ↓putS6, ↓putS7, ↓putS8, ↓putS9, ↓putS10]
            refine ite2 (fun c => ?_) (fun _ => hK3 _ ⟨_, _, _, _, _, rfl⟩)
            simp only [List.length_map, decide_eq_true_eq] at c
            have hz' : (listedB (less L (0 + i)).body).length < (listedB L.body).length := hz
            omega
          · rw [isLoop_iff.mpr ⟨_, less_ok hL.1, rfl⟩] at h; cases h
end
theorem top_mk {P : Program} {w : World} {K : PySem.W.Frag} {h : Heap} {mg : Str → Option Value} {fa f_law f_without f_less_one f_body_without f_bodies_of f_listed f_need_statement_number f_is_number f_need_loop f_is_loop f_is_body f_is_statement f_is_counted f_is_test f_is_worded f__law_refused f_statements f_words_of f__law_less f__law_cut f__law_size f__law_loop f__law_draw f__law_bent f__law_simple f__law_of f__law_known f__law_body f__law_source C_InvalidLoop C_InvalidNumber C_PaceError p_LEAST_NUMBERS : Addr} {od0 an0 od1 an1 od2 an2 od3 an3 od4 an4 od5 an5 od6 an6 od7 an7 od8 an8 od9 an9 od10 an10 od11 an11 od12 an12 od13 an13 od14 an14 od15 an15 od16 an16 od17 an17 od18 an18 od19 an19 od20 an20 od21 an21 od22 an22 od23 an23 od24 an24 od25 an25 od26 an26 od27 an27 od28 an28 : Option Addr} {sl0 sl1 sl2 sl3 sl4 sl5 sl6 sl7 sl8 sl9 sl10 sl11 sl12 sl13 sl14 sl15 sl16 sl17 sl18 sl19 sl20 sl21 sl22 sl23 sl24 sl25 sl26 sl27 sl28 : Array (Option Value)} {oc0 kV0 dc0 pm0 cd0 ct0 oc1 kV1 dc1 pm1 cd1 ct1 oc2 kV2 dc2 pm2 cd2 ct2 oc3 kV3 dc3 pm3 cd3 ct3 oc4 kV4 dc4 pm4 cd4 ct4 oc5 kV5 dc5 pm5 cd5 ct5 oc6 kV6 dc6 pm6 cd6 ct6 oc7 kV7 dc7 pm7 cd7 ct7 oc8 kV8 dc8 pm8 cd8 ct8 oc9 kV9 dc9 pm9 cd9 ct9 oc10 kV10 dc10 pm10 cd10 ct10 oc11 kV11 dc11 pm11 cd11 ct11 oc12 kV12 dc12 pm12 cd12 ct12 oc13 kV13 dc13 pm13 cd13 ct13 oc14 kV14 dc14 pm14 cd14 ct14 oc15 kV15 dc15 pm15 cd15 ct15 oc16 kV16 dc16 pm16 cd16 ct16 oc17 kV17 dc17 pm17 cd17 ct17 oc18 kV18 dc18 pm18 cd18 ct18 oc19 kV19 dc19 pm19 cd19 ct19 oc20 kV20 dc20 pm20 cd20 ct20 oc21 kV21 dc21 pm21 cd21 ct21 oc22 kV22 dc22 pm22 cd22 ct22 oc23 kV23 dc23 pm23 cd23 ct23 oc24 kV24 dc24 pm24 cd24 ct24 oc25 kV25 dc25 pm25 cd25 ct25 oc26 kV26 dc26 pm26 cd26 ct26 oc27 kV27 dc27 pm27 cd27 ct27 oc28 kV28 dc28 pm28 cd28 ct28 : Value} {es_LEAST_NUMBERS : Array DictEntry} {n_LEAST_NUMBERS : Nat} {t_MOST_STATEMENTS t_MOST_TIME t_MOST_DEEP te0_LEAST_NUMBERS te1_LEAST_NUMBERS te2_LEAST_NUMBERS te3_LEAST_NUMBERS te4_LEAST_NUMBERS te5_LEAST_NUMBERS : Tok} (X : K.In h) (G : h.Ns mainGlobals mg) (hfa : mg "law" = some (.ref fa))
    (a_law : PySem.W.nsIn K mainGlobals "law" = some (some (.ref f_law)))
    (l_law : K.lookup f_law = some ⟨oc0, od0, .func (PySem.W.fnOf "law" "law" (defArgs s_law) (defBody s_law) (defScope s_law) .none kV0 dc0 pm0 an0 cd0 ct0), sl0⟩)
    (co_law : PySem.W.codeIn K cd0 "law" = true)
    (k_law : PySem.W.keepIn K (.ref f_law) = true)
    (z_range : PySem.W.nsIn K mainGlobals "range" = some none)
    (a_without : PySem.W.nsIn K mainGlobals "without" = some (some (.ref f_without)))
    (l_without : K.lookup f_without = some ⟨oc1, od1, .func (PySem.W.fnOf "without" "without" (defArgs s_without) (defBody s_without) (defScope s_without) .none kV1 dc1 pm1 an1 cd1 ct1), sl1⟩)
    (co_without : PySem.W.codeIn K cd1 "without" = true)
    (k_without : PySem.W.keepIn K (.ref f_without) = true)
    (a_less_one : PySem.W.nsIn K mainGlobals "less_one" = some (some (.ref f_less_one)))
    (l_less_one : K.lookup f_less_one = some ⟨oc2, od2, .func (PySem.W.fnOf "less_one" "less_one" (defArgs s_less_one) (defBody s_less_one) (defScope s_less_one) .none kV2 dc2 pm2 an2 cd2 ct2), sl2⟩)
    (co_less_one : PySem.W.codeIn K cd2 "less_one" = true)
    (k_less_one : PySem.W.keepIn K (.ref f_less_one) = true)
    (a_body_without : PySem.W.nsIn K mainGlobals "body_without" = some (some (.ref f_body_without)))
    (l_body_without : K.lookup f_body_without = some ⟨oc3, od3, .func (PySem.W.fnOf "body_without" "body_without" (defArgs s_body_without) (defBody s_body_without) (defScope s_body_without) .none kV3 dc3 pm3 an3 cd3 ct3), sl3⟩)
    (co_body_without : PySem.W.codeIn K cd3 "body_without" = true)
    (k_body_without : PySem.W.keepIn K (.ref f_body_without) = true)
    (a_bodies_of : PySem.W.nsIn K mainGlobals "bodies_of" = some (some (.ref f_bodies_of)))
    (l_bodies_of : K.lookup f_bodies_of = some ⟨oc4, od4, .func (PySem.W.fnOf "bodies_of" "bodies_of" (defArgs s_bodies_of) (defBody s_bodies_of) (defScope s_bodies_of) .none kV4 dc4 pm4 an4 cd4 ct4), sl4⟩)
    (co_bodies_of : PySem.W.codeIn K cd4 "bodies_of" = true)
    (k_bodies_of : PySem.W.keepIn K (.ref f_bodies_of) = true)
    (z_list : PySem.W.nsIn K mainGlobals "list" = some none)
    (z_len : PySem.W.nsIn K mainGlobals "len" = some none)
    (a_listed : PySem.W.nsIn K mainGlobals "listed" = some (some (.ref f_listed)))
    (l_listed : K.lookup f_listed = some ⟨oc5, od5, .func (PySem.W.fnOf "listed" "listed" (defArgs s_listed) (defBody s_listed) (defScope s_listed) .none kV5 dc5 pm5 an5 cd5 ct5), sl5⟩)
    (co_listed : PySem.W.codeIn K cd5 "listed" = true)
    (k_listed : PySem.W.keepIn K (.ref f_listed) = true)
    (a_need_statement_number : PySem.W.nsIn K mainGlobals "need_statement_number" = some (some (.ref f_need_statement_number)))
    (l_need_statement_number : K.lookup f_need_statement_number = some ⟨oc6, od6, .func (PySem.W.fnOf "need_statement_number" "need_statement_number" (defArgs s_need_statement_number) (defBody s_need_statement_number) (defScope s_need_statement_number) .none kV6 dc6 pm6 an6 cd6 ct6), sl6⟩)
    (co_need_statement_number : PySem.W.codeIn K cd6 "need_statement_number" = true)
    (k_need_statement_number : PySem.W.keepIn K (.ref f_need_statement_number) = true)
    (a_is_number : PySem.W.nsIn K mainGlobals "is_number" = some (some (.ref f_is_number)))
    (l_is_number : K.lookup f_is_number = some ⟨oc7, od7, .func (PySem.W.fnOf "is_number" "is_number" (defArgs s_is_number) (defBody s_is_number) (defScope s_is_number) .none kV7 dc7 pm7 an7 cd7 ct7), sl7⟩)
    (co_is_number : PySem.W.codeIn K cd7 "is_number" = true)
    (k_is_number : PySem.W.keepIn K (.ref f_is_number) = true)
    (z_isinstance : PySem.W.nsIn K mainGlobals "isinstance" = some none)
    (z_bool : PySem.W.nsIn K mainGlobals "bool" = some none)
    (z_int : PySem.W.nsIn K mainGlobals "int" = some none)
    (aE_InvalidNumber : PySem.W.nsIn K mainGlobals "InvalidNumber" = some (some (.ref C_InvalidNumber)))
    (xE_InvalidNumber : PySem.W.excIn K C_InvalidNumber [.type "ValueError", .type "Exception", .type "BaseException", .type "object"] "ValueError.__new__" = true)
    (kE_InvalidNumber : PySem.W.keepIn K (.ref C_InvalidNumber) = true)
    (bE_InvalidNumber : PySem.W.subIn K (.ref C_InvalidNumber) (.type "BaseException") = some true)
    (tE_InvalidNumber : PySem.W.typeIn K (.ref C_InvalidNumber) = some (.type "type"))
    (a_need_loop : PySem.W.nsIn K mainGlobals "need_loop" = some (some (.ref f_need_loop)))
    (l_need_loop : K.lookup f_need_loop = some ⟨oc8, od8, .func (PySem.W.fnOf "need_loop" "need_loop" (defArgs s_need_loop) (defBody s_need_loop) (defScope s_need_loop) .none kV8 dc8 pm8 an8 cd8 ct8), sl8⟩)
    (co_need_loop : PySem.W.codeIn K cd8 "need_loop" = true)
    (k_need_loop : PySem.W.keepIn K (.ref f_need_loop) = true)
    (a_is_loop : PySem.W.nsIn K mainGlobals "is_loop" = some (some (.ref f_is_loop)))
    (l_is_loop : K.lookup f_is_loop = some ⟨oc9, od9, .func (PySem.W.fnOf "is_loop" "is_loop" (defArgs s_is_loop) (defBody s_is_loop) (defScope s_is_loop) .none kV9 dc9 pm9 an9 cd9 ct9), sl9⟩)
    (co_is_loop : PySem.W.codeIn K cd9 "is_loop" = true)
    (k_is_loop : PySem.W.keepIn K (.ref f_is_loop) = true)
    (v_MOST_STATEMENTS : PySem.W.nsIn K mainGlobals "MOST_STATEMENTS" = some (some (.int (12) t_MOST_STATEMENTS)))
    (a_is_body : PySem.W.nsIn K mainGlobals "is_body" = some (some (.ref f_is_body)))
    (l_is_body : K.lookup f_is_body = some ⟨oc10, od10, .func (PySem.W.fnOf "is_body" "is_body" (defArgs s_is_body) (defBody s_is_body) (defScope s_is_body) .none kV10 dc10 pm10 an10 cd10 ct10), sl10⟩)
    (co_is_body : PySem.W.codeIn K cd10 "is_body" = true)
    (k_is_body : PySem.W.keepIn K (.ref f_is_body) = true)
    (z_all : PySem.W.nsIn K mainGlobals "all" = some none)
    (a_is_statement : PySem.W.nsIn K mainGlobals "is_statement" = some (some (.ref f_is_statement)))
    (l_is_statement : K.lookup f_is_statement = some ⟨oc11, od11, .func (PySem.W.fnOf "is_statement" "is_statement" (defArgs s_is_statement) (defBody s_is_statement) (defScope s_is_statement) .none kV11 dc11 pm11 an11 cd11 ct11), sl11⟩)
    (co_is_statement : PySem.W.codeIn K cd11 "is_statement" = true)
    (k_is_statement : PySem.W.keepIn K (.ref f_is_statement) = true)
    (a_is_counted : PySem.W.nsIn K mainGlobals "is_counted" = some (some (.ref f_is_counted)))
    (l_is_counted : K.lookup f_is_counted = some ⟨oc12, od12, .func (PySem.W.fnOf "is_counted" "is_counted" (defArgs s_is_counted) (defBody s_is_counted) (defScope s_is_counted) .none kV12 dc12 pm12 an12 cd12 ct12), sl12⟩)
    (co_is_counted : PySem.W.codeIn K cd12 "is_counted" = true)
    (k_is_counted : PySem.W.keepIn K (.ref f_is_counted) = true)
    (v_MOST_TIME : PySem.W.nsIn K mainGlobals "MOST_TIME" = some (some (.int (8) t_MOST_TIME)))
    (v_LEAST_NUMBERS : PySem.W.nsIn K mainGlobals "LEAST_NUMBERS" = some (some (.ref p_LEAST_NUMBERS)))
    (lk_LEAST_NUMBERS : K.lookup p_LEAST_NUMBERS = some ⟨.type "dict", none, .dict es_LEAST_NUMBERS n_LEAST_NUMBERS, #[]⟩)
    (kk_LEAST_NUMBERS : PySem.W.KeysLit w.params es_LEAST_NUMBERS.toList)
    (e0_LEAST_NUMBERS : PySem.W.nsIn K p_LEAST_NUMBERS "wait" = some (some (.int 1 te0_LEAST_NUMBERS)))
    (e1_LEAST_NUMBERS : PySem.W.nsIn K p_LEAST_NUMBERS "rest" = some (some (.int 1 te1_LEAST_NUMBERS)))
    (e2_LEAST_NUMBERS : PySem.W.nsIn K p_LEAST_NUMBERS "move" = some (some (.int 1 te2_LEAST_NUMBERS)))
    (e3_LEAST_NUMBERS : PySem.W.nsIn K p_LEAST_NUMBERS "ahead" = some (some (.int 1 te3_LEAST_NUMBERS)))
    (e4_LEAST_NUMBERS : PySem.W.nsIn K p_LEAST_NUMBERS "set" = some (some (.int 0 te4_LEAST_NUMBERS)))
    (e5_LEAST_NUMBERS : PySem.W.nsIn K p_LEAST_NUMBERS "late" = some (some (.int 0 te5_LEAST_NUMBERS)))
    (a_is_test : PySem.W.nsIn K mainGlobals "is_test" = some (some (.ref f_is_test)))
    (l_is_test : K.lookup f_is_test = some ⟨oc13, od13, .func (PySem.W.fnOf "is_test" "is_test" (defArgs s_is_test) (defBody s_is_test) (defScope s_is_test) .none kV13 dc13 pm13 an13 cd13 ct13), sl13⟩)
    (co_is_test : PySem.W.codeIn K cd13 "is_test" = true)
    (k_is_test : PySem.W.keepIn K (.ref f_is_test) = true)
    (a_is_worded : PySem.W.nsIn K mainGlobals "is_worded" = some (some (.ref f_is_worded)))
    (l_is_worded : K.lookup f_is_worded = some ⟨oc14, od14, .func (PySem.W.fnOf "is_worded" "is_worded" (defArgs s_is_worded) (defBody s_is_worded) (defScope s_is_worded) .none kV14 dc14 pm14 an14 cd14 ct14), sl14⟩)
    (co_is_worded : PySem.W.codeIn K cd14 "is_worded" = true)
    (k_is_worded : PySem.W.keepIn K (.ref f_is_worded) = true)
    (z_str : PySem.W.nsIn K mainGlobals "str" = some none)
    (z_tuple : PySem.W.nsIn K mainGlobals "tuple" = some none)
    (v_MOST_DEEP : PySem.W.nsIn K mainGlobals "MOST_DEEP" = some (some (.int (3) t_MOST_DEEP)))
    (aE_InvalidLoop : PySem.W.nsIn K mainGlobals "InvalidLoop" = some (some (.ref C_InvalidLoop)))
    (xE_InvalidLoop : PySem.W.excIn K C_InvalidLoop [.type "ValueError", .type "Exception", .type "BaseException", .type "object"] "ValueError.__new__" = true)
    (kE_InvalidLoop : PySem.W.keepIn K (.ref C_InvalidLoop) = true)
    (bE_InvalidLoop : PySem.W.subIn K (.ref C_InvalidLoop) (.type "BaseException") = some true)
    (tE_InvalidLoop : PySem.W.typeIn K (.ref C_InvalidLoop) = some (.type "type"))
    (z_min : PySem.W.nsIn K mainGlobals "min" = some none)
    (a__law_refused : PySem.W.nsIn K mainGlobals "_law_refused" = some (some (.ref f__law_refused)))
    (l__law_refused : K.lookup f__law_refused = some ⟨oc15, od15, .func (PySem.W.fnOf "_law_refused" "_law_refused" (defArgs s__law_refused) (defBody s__law_refused) (defScope s__law_refused) .none kV15 dc15 pm15 an15 cd15 ct15), sl15⟩)
    (co__law_refused : PySem.W.codeIn K cd15 "_law_refused" = true)
    (k__law_refused : PySem.W.keepIn K (.ref f__law_refused) = true)
    (aE_PaceError : PySem.W.nsIn K mainGlobals "PaceError" = some (some (.ref C_PaceError)))
    (xE_PaceError : PySem.W.excIn K C_PaceError [.type "ValueError", .type "Exception", .type "BaseException", .type "object"] "ValueError.__new__" = true)
    (kE_PaceError : PySem.W.keepIn K (.ref C_PaceError) = true)
    (bE_PaceError : PySem.W.subIn K (.ref C_PaceError) (.type "BaseException") = some true)
    (tE_PaceError : PySem.W.typeIn K (.ref C_PaceError) = some (.type "type"))
    (hg_InvalidNumber : PySem.W.findIn K (.ref C_InvalidNumber) "__getattribute__" = some (some (.builtin "BaseException.__getattribute__")))
    (hk_InvalidNumber : PySem.W.findIn K (.ref C_InvalidNumber) "__getattr__" = some none)
    (hd_InvalidNumber : PySem.W.hasDictIn K C_InvalidNumber = true)
    (ha_InvalidNumber : PySem.W.findIn K (.ref C_InvalidNumber) "__class__" = some (some (.builtin "object.__class__")))
    (hn_0 : PySem.W.specialIn K (.builtin "object.__class__") "__get__" = some (some (.builtin "getset_descriptor.__get__")))
    (ht_0 : PySem.W.takesIn K (.builtin "object.__class__") = some true)
    (hm_InvalidNumber : PySem.W.mroIn K C_InvalidNumber (.type "object") = some true)
    (ic_PaceError : PySem.W.isClsIn K C_PaceError = true)
    (sb_InvalidNumber_PaceError : PySem.W.subIn K (.ref C_InvalidNumber) (.ref C_PaceError) = some true)
    (ic_InvalidNumber : PySem.W.isClsIn K C_InvalidNumber = true)
    (sb_InvalidNumber_InvalidNumber : PySem.W.subIn K (.ref C_InvalidNumber) (.ref C_InvalidNumber) = some true)
    (a_statements : PySem.W.nsIn K mainGlobals "statements" = some (some (.ref f_statements)))
    (l_statements : K.lookup f_statements = some ⟨oc16, od16, .func (PySem.W.fnOf "statements" "statements" (defArgs s_statements) (defBody s_statements) (defScope s_statements) .none kV16 dc16 pm16 an16 cd16 ct16), sl16⟩)
    (co_statements : PySem.W.codeIn K cd16 "statements" = true)
    (k_statements : PySem.W.keepIn K (.ref f_statements) = true)
    (a_words_of : PySem.W.nsIn K mainGlobals "words_of" = some (some (.ref f_words_of)))
    (l_words_of : K.lookup f_words_of = some ⟨oc17, od17, .func (PySem.W.fnOf "words_of" "words_of" (defArgs s_words_of) (defBody s_words_of) (defScope s_words_of) .none kV17 dc17 pm17 an17 cd17 ct17), sl17⟩)
    (co_words_of : PySem.W.codeIn K cd17 "words_of" = true)
    (k_words_of : PySem.W.keepIn K (.ref f_words_of) = true)
    (a__law_less : PySem.W.nsIn K mainGlobals "_law_less" = some (some (.ref f__law_less)))
    (l__law_less : K.lookup f__law_less = some ⟨oc18, od18, .func (PySem.W.fnOf "_law_less" "_law_less" (defArgs s__law_less) (defBody s__law_less) (defScope s__law_less) .none kV18 dc18 pm18 an18 cd18 ct18), sl18⟩)
    (co__law_less : PySem.W.codeIn K cd18 "_law_less" = true)
    (k__law_less : PySem.W.keepIn K (.ref f__law_less) = true)
    (a__law_cut : PySem.W.nsIn K mainGlobals "_law_cut" = some (some (.ref f__law_cut)))
    (l__law_cut : K.lookup f__law_cut = some ⟨oc19, od19, .func (PySem.W.fnOf "_law_cut" "_law_cut" (defArgs s__law_cut) (defBody s__law_cut) (defScope s__law_cut) .none kV19 dc19 pm19 an19 cd19 ct19), sl19⟩)
    (co__law_cut : PySem.W.codeIn K cd19 "_law_cut" = true)
    (k__law_cut : PySem.W.keepIn K (.ref f__law_cut) = true)
    (a__law_size : PySem.W.nsIn K mainGlobals "_law_size" = some (some (.ref f__law_size)))
    (l__law_size : K.lookup f__law_size = some ⟨oc20, od20, .func (PySem.W.fnOf "_law_size" "_law_size" (defArgs s__law_size) (defBody s__law_size) (defScope s__law_size) .none kV20 dc20 pm20 an20 cd20 ct20), sl20⟩)
    (co__law_size : PySem.W.codeIn K cd20 "_law_size" = true)
    (k__law_size : PySem.W.keepIn K (.ref f__law_size) = true)
    (a__law_loop : PySem.W.nsIn K mainGlobals "_law_loop" = some (some (.ref f__law_loop)))
    (l__law_loop : K.lookup f__law_loop = some ⟨oc21, od21, .func (PySem.W.fnOf "_law_loop" "_law_loop" (defArgs s__law_loop) (defBody s__law_loop) (defScope s__law_loop) .none kV21 dc21 pm21 an21 cd21 ct21), sl21⟩)
    (co__law_loop : PySem.W.codeIn K cd21 "_law_loop" = true)
    (k__law_loop : PySem.W.keepIn K (.ref f__law_loop) = true)
    (a__law_draw : PySem.W.nsIn K mainGlobals "_law_draw" = some (some (.ref f__law_draw)))
    (l__law_draw : K.lookup f__law_draw = some ⟨oc22, od22, .func (PySem.W.fnOf "_law_draw" "_law_draw" (defArgs s__law_draw) (defBody s__law_draw) (defScope s__law_draw) .none kV22 dc22 pm22 an22 cd22 ct22), sl22⟩)
    (co__law_draw : PySem.W.codeIn K cd22 "_law_draw" = true)
    (k__law_draw : PySem.W.keepIn K (.ref f__law_draw) = true)
    (a__law_bent : PySem.W.nsIn K mainGlobals "_law_bent" = some (some (.ref f__law_bent)))
    (l__law_bent : K.lookup f__law_bent = some ⟨oc23, od23, .func (PySem.W.fnOf "_law_bent" "_law_bent" (defArgs s__law_bent) (defBody s__law_bent) (defScope s__law_bent) .none kV23 dc23 pm23 an23 cd23 ct23), sl23⟩)
    (co__law_bent : PySem.W.codeIn K cd23 "_law_bent" = true)
    (k__law_bent : PySem.W.keepIn K (.ref f__law_bent) = true)
    (a__law_simple : PySem.W.nsIn K mainGlobals "_law_simple" = some (some (.ref f__law_simple)))
    (l__law_simple : K.lookup f__law_simple = some ⟨oc24, od24, .func (PySem.W.fnOf "_law_simple" "_law_simple" (defArgs s__law_simple) (defBody s__law_simple) (defScope s__law_simple) .none kV24 dc24 pm24 an24 cd24 ct24), sl24⟩)
    (co__law_simple : PySem.W.codeIn K cd24 "_law_simple" = true)
    (k__law_simple : PySem.W.keepIn K (.ref f__law_simple) = true)
    (a__law_of : PySem.W.nsIn K mainGlobals "_law_of" = some (some (.ref f__law_of)))
    (l__law_of : K.lookup f__law_of = some ⟨oc25, od25, .func (PySem.W.fnOf "_law_of" "_law_of" (defArgs s__law_of) (defBody s__law_of) (defScope s__law_of) .none kV25 dc25 pm25 an25 cd25 ct25), sl25⟩)
    (co__law_of : PySem.W.codeIn K cd25 "_law_of" = true)
    (k__law_of : PySem.W.keepIn K (.ref f__law_of) = true)
    (a__law_known : PySem.W.nsIn K mainGlobals "_law_known" = some (some (.ref f__law_known)))
    (l__law_known : K.lookup f__law_known = some ⟨oc26, od26, .func (PySem.W.fnOf "_law_known" "_law_known" (defArgs s__law_known) (defBody s__law_known) (defScope s__law_known) .none kV26 dc26 pm26 an26 cd26 ct26), sl26⟩)
    (co__law_known : PySem.W.codeIn K cd26 "_law_known" = true)
    (k__law_known : PySem.W.keepIn K (.ref f__law_known) = true)
    (a__law_body : PySem.W.nsIn K mainGlobals "_law_body" = some (some (.ref f__law_body)))
    (l__law_body : K.lookup f__law_body = some ⟨oc27, od27, .func (PySem.W.fnOf "_law_body" "_law_body" (defArgs s__law_body) (defBody s__law_body) (defScope s__law_body) .none kV27 dc27 pm27 an27 cd27 ct27), sl27⟩)
    (co__law_body : PySem.W.codeIn K cd27 "_law_body" = true)
    (k__law_body : PySem.W.keepIn K (.ref f__law_body) = true)
    (a__law_source : PySem.W.nsIn K mainGlobals "_law_source" = some (some (.ref f__law_source)))
    (l__law_source : K.lookup f__law_source = some ⟨oc28, od28, .func (PySem.W.fnOf "_law_source" "_law_source" (defArgs s__law_source) (defBody s__law_source) (defScope s__law_source) .none kV28 dc28 pm28 an28 cd28 ct28), sl28⟩)
    (co__law_source : PySem.W.codeIn K cd28 "_law_source" = true)
    (k__law_source : PySem.W.keepIn K (.ref f__law_source) = true)
    (z_abs : PySem.W.nsIn K mainGlobals "abs" = some none)
    : ∃ fd : FuncData, (∀ (s : Shared) (v : Value), BindsTo s fd ⟨[v], []⟩ [("script", v)]) ∧ ∀ base : Heap, K.In base → base.Ns mainGlobals mg → FnOk P w K mg base (L2.CX P w) 16 fa fd ["script"] (spP K 1 φ_law) := by
  have e := hfa.symm.trans (PySem.W.mg_of X G a_law)
  cases e
  refine ⟨PySem.W.fnOf "law" "law" (defArgs s_law) (defBody s_law) (defScope s_law) .none kV0 dc0 pm0 an0 cd0 ct0, fun s v => .of_eq rfl, fun base _ _ => ?_⟩
  have F_law := fun_mk (st := s_law) l_law co_law k_law
  have m_range : mg "range" = none := PySem.W.mg_none_of X G z_range
  have F_without := fun_mk (st := s_without) l_without co_without k_without
  have T_without : TopD K mg "without" ["loop", "number"] s_without := ⟨f_without, _, F_without, PySem.W.mg_of X G a_without, F_without.binds (ps := ["loop", "number"]) fun _ _ _ _ _ _ us hl => match us, hl with | [_, _], _ => rfl⟩
  have F_less_one := fun_mk (st := s_less_one) l_less_one co_less_one k_less_one
  have T_less_one : TopD K mg "less_one" ["loop", "number"] s_less_one := ⟨f_less_one, _, F_less_one, PySem.W.mg_of X G a_less_one, F_less_one.binds (ps := ["loop", "number"]) fun _ _ _ _ _ _ us hl => match us, hl with | [_, _], _ => rfl⟩
  have F_body_without := fun_mk (st := s_body_without) l_body_without co_body_without k_body_without
  have T_body_without : TopD K mg "body_without" ["body", "first", "gone"] s_body_without := ⟨f_body_without, _, F_body_without, PySem.W.mg_of X G a_body_without, F_body_without.binds (ps := ["body", "first", "gone"]) fun _ _ _ _ _ _ us hl => match us, hl with | [_, _, _], _ => rfl⟩
  have F_bodies_of := fun_mk (st := s_bodies_of) l_bodies_of co_bodies_of k_bodies_of
  have T_bodies_of : TopD K mg "bodies_of" ["statement"] s_bodies_of := ⟨f_bodies_of, _, F_bodies_of, PySem.W.mg_of X G a_bodies_of, F_bodies_of.binds (ps := ["statement"]) fun _ _ _ _ _ _ us hl => match us, hl with | [_], _ => rfl⟩
  have m_list : mg "list" = none := PySem.W.mg_none_of X G z_list
  have c_bodies_of := ok_bodies_of (P := P) (w := w) (base := base) (k := 0) T_bodies_of (m_list := m_list)
  have m_len : mg "len" = none := PySem.W.mg_none_of X G z_len
  have F_listed := fun_mk (st := s_listed) l_listed co_listed k_listed
  have T_listed : TopD K mg "listed" ["body"] s_listed := ⟨f_listed, _, F_listed, PySem.W.mg_of X G a_listed, F_listed.binds (ps := ["body"]) fun _ _ _ _ _ _ us hl => match us, hl with | [_], _ => rfl⟩
  have c_listed_0 := ok_listed (P := P) (w := w) (base := base) (k := 1) (d := 0) T_listed (c_bodies_of := (c_bodies_of.up (by decide))) (c_listed := (low_none T_listed rfl fun _ _ _ _ h => absurd h.1 (by decide))) (hd := (by decide))
  have c_listed_1 := ok_listed (P := P) (w := w) (base := base) (k := 2) (d := 1) T_listed (c_bodies_of := (c_bodies_of.up (by decide))) (c_listed := (c_listed_0.up (by decide) |>.wk fun _ _ _ _ h => h.2)) (hd := (by decide))
  have c_listed_2 := ok_listed (P := P) (w := w) (base := base) (k := 3) (d := 2) T_listed (c_bodies_of := (c_bodies_of.up (by decide))) (c_listed := (c_listed_1.up (by decide) |>.wk fun _ _ _ _ h => h.2)) (hd := (by decide))
  have c_body_without_0 := ok_body_without (P := P) (w := w) (base := base) (k := 2) (d := 0) T_body_without (c_bodies_of := (c_bodies_of.up (by decide))) (m_len := m_len) (c_listed := (c_listed_0.up (by decide))) (c_body_without := (low_none T_body_without rfl fun _ _ _ _ h => absurd h.1 (by decide))) (hd := (by decide))
  have c_body_without_1 := ok_body_without (P := P) (w := w) (base := base) (k := 3) (d := 1) T_body_without (c_bodies_of := (c_bodies_of.up (by decide))) (m_len := m_len) (c_listed := (c_listed_0.up (by decide))) (c_body_without := (c_body_without_0.up (by decide) |>.wk fun _ _ _ _ h => h.2)) (hd := (by decide))
  have c_body_without_2 := ok_body_without (P := P) (w := w) (base := base) (k := 4) (d := 2) T_body_without (c_bodies_of := (c_bodies_of.up (by decide))) (m_len := m_len) (c_listed := (c_listed_1.up (by decide))) (c_body_without := (c_body_without_1.up (by decide) |>.wk fun _ _ _ _ h => h.2)) (hd := (by decide))
  have c_body_without_3 := ok_body_without (P := P) (w := w) (base := base) (k := 5) (d := 3) T_body_without (c_bodies_of := (c_bodies_of.up (by decide))) (m_len := m_len) (c_listed := (c_listed_2.up (by decide))) (c_body_without := (c_body_without_2.up (by decide) |>.wk fun _ _ _ _ h => h.2)) (hd := (by decide))
  have c_less_one := ok_less_one (P := P) (w := w) (base := base) (k := 6) T_less_one (c_body_without := (c_body_without_3.up (by decide)))
  have F_need_statement_number := fun_mk (st := s_need_statement_number) l_need_statement_number co_need_statement_number k_need_statement_number
  have T_need_statement_number : TopD K mg "need_statement_number" ["loop", "value"] s_need_statement_number := ⟨f_need_statement_number, _, F_need_statement_number, PySem.W.mg_of X G a_need_statement_number, F_need_statement_number.binds (ps := ["loop", "value"]) fun _ _ _ _ _ _ us hl => match us, hl with | [_, _], _ => rfl⟩
  have F_is_number := fun_mk (st := s_is_number) l_is_number co_is_number k_is_number
  have T_is_number : TopD K mg "is_number" ["value", "least", "most"] s_is_number := ⟨f_is_number, _, F_is_number, PySem.W.mg_of X G a_is_number, F_is_number.binds (ps := ["value", "least", "most"]) fun _ _ _ _ _ _ us hl => match us, hl with | [_, _, _], _ => rfl⟩
  have m_isinstance : mg "isinstance" = none := PySem.W.mg_none_of X G z_isinstance
  have m_bool : mg "bool" = none := PySem.W.mg_none_of X G z_bool
  have m_int : mg "int" = none := PySem.W.mg_none_of X G z_int
  have c_is_number := ok_is_number (P := P) (w := w) (base := base) (k := 0) T_is_number (m_isinstance := m_isinstance) (m_bool := m_bool) (m_int := m_int)
  have c_listed_3 := ok_listed (P := P) (w := w) (base := base) (k := 4) (d := 3) T_listed (c_bodies_of := (c_bodies_of.up (by decide))) (c_listed := (c_listed_2.up (by decide) |>.wk fun _ _ _ _ h => h.2)) (hd := (by decide))
  have x_InvalidNumber : ExC K mg "InvalidNumber" C_InvalidNumber := ⟨PySem.W.mg_of X G aE_InvalidNumber, xE_InvalidNumber, kE_InvalidNumber, bE_InvalidNumber, tE_InvalidNumber⟩
  have c_need_statement_number := ok_need_statement_number (P := P) (w := w) (base := base) (k := 5) T_need_statement_number (c_is_number := (c_is_number.up (by decide))) (m_len := m_len) (c_listed := (c_listed_3.up (by decide))) (x_InvalidNumber := x_InvalidNumber)
  have F_need_loop := fun_mk (st := s_need_loop) l_need_loop co_need_loop k_need_loop
  have T_need_loop : TopD K mg "need_loop" ["value"] s_need_loop := ⟨f_need_loop, _, F_need_loop, PySem.W.mg_of X G a_need_loop, F_need_loop.binds (ps := ["value"]) fun _ _ _ _ _ _ us hl => match us, hl with | [_], _ => rfl⟩
  have F_is_loop := fun_mk (st := s_is_loop) l_is_loop co_is_loop k_is_loop
  have T_is_loop : TopD K mg "is_loop" ["value"] s_is_loop := ⟨f_is_loop, _, F_is_loop, PySem.W.mg_of X G a_is_loop, F_is_loop.binds (ps := ["value"]) fun _ _ _ _ _ _ us hl => match us, hl with | [_], _ => rfl⟩
  have g_MOST_STATEMENTS : GI mg "MOST_STATEMENTS" 12 := ⟨_, PySem.W.mg_of X G v_MOST_STATEMENTS⟩
  have F_is_body := fun_mk (st := s_is_body) l_is_body co_is_body k_is_body
  have T_is_body : TopD K mg "is_body" ["value", "deep"] s_is_body := ⟨f_is_body, _, F_is_body, PySem.W.mg_of X G a_is_body, F_is_body.binds (ps := ["value", "deep"]) fun _ _ _ _ _ _ us hl => match us, hl with | [_, _], _ => rfl⟩
  have m_all : mg "all" = none := PySem.W.mg_none_of X G z_all
  have F_is_statement := fun_mk (st := s_is_statement) l_is_statement co_is_statement k_is_statement
  have T_is_statement : TopD K mg "is_statement" ["value", "deep"] s_is_statement := ⟨f_is_statement, _, F_is_statement, PySem.W.mg_of X G a_is_statement, F_is_statement.binds (ps := ["value", "deep"]) fun _ _ _ _ _ _ us hl => match us, hl with | [_, _], _ => rfl⟩
  have F_is_counted := fun_mk (st := s_is_counted) l_is_counted co_is_counted k_is_counted
  have T_is_counted : TopD K mg "is_counted" ["value", "words"] s_is_counted := ⟨f_is_counted, _, F_is_counted, PySem.W.mg_of X G a_is_counted, F_is_counted.binds (ps := ["value", "words"]) fun _ _ _ _ _ _ us hl => match us, hl with | [_, _], _ => rfl⟩
  have g_MOST_TIME : GI mg "MOST_TIME" 8 := ⟨_, PySem.W.mg_of X G v_MOST_TIME⟩
  have g_LEAST_NUMBERS : GT K w mg "LEAST_NUMBERS" tab_LEAST_NUMBERS := gt_of (PySem.W.mg_of X G v_LEAST_NUMBERS) fun zd hz => by
    simp only [tab_LEAST_NUMBERS, List.mem_cons, List.not_mem_nil, or_false] at hz
    rcases hz with rfl | rfl | rfl | rfl | rfl | rfl
    · exact ⟨.int 1, ⟨es_LEAST_NUMBERS, n_LEAST_NUMBERS, _, lk_LEAST_NUMBERS, kk_LEAST_NUMBERS, e0_LEAST_NUMBERS, ⟨_, rfl⟩⟩, fun _ => .int _⟩
    · exact ⟨.int 1, ⟨es_LEAST_NUMBERS, n_LEAST_NUMBERS, _, lk_LEAST_NUMBERS, kk_LEAST_NUMBERS, e1_LEAST_NUMBERS, ⟨_, rfl⟩⟩, fun _ => .int _⟩
    · exact ⟨.int 1, ⟨es_LEAST_NUMBERS, n_LEAST_NUMBERS, _, lk_LEAST_NUMBERS, kk_LEAST_NUMBERS, e2_LEAST_NUMBERS, ⟨_, rfl⟩⟩, fun _ => .int _⟩
    · exact ⟨.int 1, ⟨es_LEAST_NUMBERS, n_LEAST_NUMBERS, _, lk_LEAST_NUMBERS, kk_LEAST_NUMBERS, e3_LEAST_NUMBERS, ⟨_, rfl⟩⟩, fun _ => .int _⟩
    · exact ⟨.int 0, ⟨es_LEAST_NUMBERS, n_LEAST_NUMBERS, _, lk_LEAST_NUMBERS, kk_LEAST_NUMBERS, e4_LEAST_NUMBERS, ⟨_, rfl⟩⟩, fun _ => .int _⟩
    · exact ⟨.int 0, ⟨es_LEAST_NUMBERS, n_LEAST_NUMBERS, _, lk_LEAST_NUMBERS, kk_LEAST_NUMBERS, e5_LEAST_NUMBERS, ⟨_, rfl⟩⟩, fun _ => .int _⟩
  have c_is_counted := ok_is_counted (P := P) (w := w) (base := base) (k := 1) T_is_counted (c_is_number := (c_is_number.up (by decide))) (g_MOST_TIME := g_MOST_TIME) (g_LEAST_NUMBERS := g_LEAST_NUMBERS) (m_len := m_len)
  have F_is_test := fun_mk (st := s_is_test) l_is_test co_is_test k_is_test
  have T_is_test : TopD K mg "is_test" ["value"] s_is_test := ⟨f_is_test, _, F_is_test, PySem.W.mg_of X G a_is_test, F_is_test.binds (ps := ["value"]) fun _ _ _ _ _ _ us hl => match us, hl with | [_], _ => rfl⟩
  have F_is_worded := fun_mk (st := s_is_worded) l_is_worded co_is_worded k_is_worded
  have T_is_worded : TopD K mg "is_worded" ["value"] s_is_worded := ⟨f_is_worded, _, F_is_worded, PySem.W.mg_of X G a_is_worded, F_is_worded.binds (ps := ["value"]) fun _ _ _ _ _ _ us hl => match us, hl with | [_], _ => rfl⟩
  have m_str : mg "str" = none := PySem.W.mg_none_of X G z_str
  have m_tuple : mg "tuple" = none := PySem.W.mg_none_of X G z_tuple
  have c_is_worded := ok_is_worded (P := P) (w := w) (base := base) (k := 0) T_is_worded (m_isinstance := m_isinstance) (m_str := m_str) (m_tuple := m_tuple)
  have c_is_test := ok_is_test (P := P) (w := w) (base := base) (k := 2) T_is_test (c_is_counted := (c_is_counted.up (by decide))) (c_is_worded := (c_is_worded.up (by decide)))
  have c_is_statement_0 := ok_is_statement (P := P) (w := w) (base := base) (k := 3) (d := 0) T_is_statement (c_is_counted := (c_is_counted.up (by decide))) (m_all := m_all) (c_is_body := (low_none T_is_body rfl fun _ _ _ _ h => h)) (c_is_test := (c_is_test.up (by decide))) (m_len := m_len) (c_is_worded := (c_is_worded.up (by decide)))
  have c_is_body_0 := ok_is_body (P := P) (w := w) (base := base) (k := 4) (d := 0) T_is_body (m_all := m_all) (c_is_statement := (c_is_statement_0.up (by decide))) (m_len := m_len) (m_isinstance := m_isinstance) (m_tuple := m_tuple)
  have c_is_statement_1 := ok_is_statement (P := P) (w := w) (base := base) (k := 5) (d := 1) T_is_statement (c_is_counted := (c_is_counted.up (by decide))) (m_all := m_all) (c_is_body := (c_is_body_0.up (by decide))) (c_is_test := (c_is_test.up (by decide))) (m_len := m_len) (c_is_worded := (c_is_worded.up (by decide)))
  have c_is_body_1 := ok_is_body (P := P) (w := w) (base := base) (k := 6) (d := 1) T_is_body (m_all := m_all) (c_is_statement := (c_is_statement_1.up (by decide))) (m_len := m_len) (m_isinstance := m_isinstance) (m_tuple := m_tuple)
  have c_is_statement_2 := ok_is_statement (P := P) (w := w) (base := base) (k := 7) (d := 2) T_is_statement (c_is_counted := (c_is_counted.up (by decide))) (m_all := m_all) (c_is_body := (c_is_body_1.up (by decide))) (c_is_test := (c_is_test.up (by decide))) (m_len := m_len) (c_is_worded := (c_is_worded.up (by decide)))
  have c_is_body_2 := ok_is_body (P := P) (w := w) (base := base) (k := 8) (d := 2) T_is_body (m_all := m_all) (c_is_statement := (c_is_statement_2.up (by decide))) (m_len := m_len) (m_isinstance := m_isinstance) (m_tuple := m_tuple)
  have c_is_statement_3 := ok_is_statement (P := P) (w := w) (base := base) (k := 9) (d := 3) T_is_statement (c_is_counted := (c_is_counted.up (by decide))) (m_all := m_all) (c_is_body := (c_is_body_2.up (by decide))) (c_is_test := (c_is_test.up (by decide))) (m_len := m_len) (c_is_worded := (c_is_worded.up (by decide)))
  have c_is_body_3 := ok_is_body (P := P) (w := w) (base := base) (k := 10) (d := 3) T_is_body (m_all := m_all) (c_is_statement := (c_is_statement_3.up (by decide))) (m_len := m_len) (m_isinstance := m_isinstance) (m_tuple := m_tuple)
  have g_MOST_DEEP : GI mg "MOST_DEEP" 3 := ⟨_, PySem.W.mg_of X G v_MOST_DEEP⟩
  have c_is_loop := ok_is_loop (P := P) (w := w) (base := base) (k := 11) T_is_loop (m_len := m_len) (c_listed := (c_listed_3.up (by decide))) (g_MOST_STATEMENTS := g_MOST_STATEMENTS) (c_is_body := (c_is_body_3.up (by decide))) (g_MOST_DEEP := g_MOST_DEEP) (m_all := m_all) (c_is_number := (c_is_number.up (by decide))) (g_MOST_TIME := g_MOST_TIME) (m_isinstance := m_isinstance) (m_tuple := m_tuple)
  have x_InvalidLoop : ExC K mg "InvalidLoop" C_InvalidLoop := ⟨PySem.W.mg_of X G aE_InvalidLoop, xE_InvalidLoop, kE_InvalidLoop, bE_InvalidLoop, tE_InvalidLoop⟩
  have c_need_loop := ok_need_loop (P := P) (w := w) (base := base) (k := 12) T_need_loop (c_is_loop := (c_is_loop.up (by decide))) (x_InvalidLoop := x_InvalidLoop)
  have c_without := ok_without (P := P) (w := w) (base := base) (k := 13) T_without (c_less_one := (c_less_one.up (by decide))) (c_need_statement_number := (c_need_statement_number.up (by decide))) (c_need_loop := (c_need_loop.up (by decide)))
  have m_min : mg "min" = none := PySem.W.mg_none_of X G z_min
  have F__law_refused := fun_mk (st := s__law_refused) l__law_refused co__law_refused k__law_refused
  have T__law_refused : TopD K mg "_law_refused" ["loop", "number"] s__law_refused := ⟨f__law_refused, _, F__law_refused, PySem.W.mg_of X G a__law_refused, F__law_refused.binds (ps := ["loop", "number"]) fun _ _ _ _ _ _ us hl => match us, hl with | [_, _], _ => rfl⟩
  have x_PaceError : ExC K mg "PaceError" C_PaceError := ⟨PySem.W.mg_of X G aE_PaceError, xE_PaceError, kE_PaceError, bE_PaceError, tE_PaceError⟩
  have ec_InvalidNumber : ExcC K C_InvalidNumber := ⟨hg_InvalidNumber, hk_InvalidNumber, bE_InvalidNumber, hd_InvalidNumber, ha_InvalidNumber, hn_0, ht_0, hm_InvalidNumber⟩
  have ki_InvalidNumber_PaceError : PySem.W.kitOne K (.ref C_InvalidNumber) (.ref C_PaceError) = some true := kit_of ic_PaceError tE_PaceError sb_InvalidNumber_PaceError
  have em_InvalidNumber_InvalidNumber : PySem.W.exmOne K (.ref C_InvalidNumber) (.ref C_InvalidNumber) = some true := exm_of bE_InvalidNumber ic_InvalidNumber tE_InvalidNumber sb_InvalidNumber_InvalidNumber
  have c__law_refused := ok__law_refused (P := P) (w := w) (base := base) (k := 14) T__law_refused (x_InvalidNumber := x_InvalidNumber) (c_without := (c_without.up (by decide))) (m_isinstance := m_isinstance) (x_PaceError := x_PaceError) (ec := ec_InvalidNumber) (ek := ki_InvalidNumber_PaceError) (em := em_InvalidNumber_InvalidNumber)
  have F_statements := fun_mk (st := s_statements) l_statements co_statements k_statements
  have T_statements : TopD K mg "statements" ["loop"] s_statements := ⟨f_statements, _, F_statements, PySem.W.mg_of X G a_statements, F_statements.binds (ps := ["loop"]) fun _ _ _ _ _ _ us hl => match us, hl with | [_], _ => rfl⟩
  have F_words_of := fun_mk (st := s_words_of) l_words_of co_words_of k_words_of
  have T_words_of : TopD K mg "words_of" ["loop"] s_words_of := ⟨f_words_of, _, F_words_of, PySem.W.mg_of X G a_words_of, F_words_of.binds (ps := ["loop"]) fun _ _ _ _ _ _ us hl => match us, hl with | [_], _ => rfl⟩
  have c_words_of := ok_words_of (P := P) (w := w) (base := base) (k := 5) T_words_of (c_listed := (c_listed_3.up (by decide)))
  have c_statements := ok_statements (P := P) (w := w) (base := base) (k := 13) T_statements (c_words_of := (c_words_of.up (by decide))) (c_need_loop := (c_need_loop.up (by decide)))
  have F__law_less := fun_mk (st := s__law_less) l__law_less co__law_less k__law_less
  have T__law_less : TopD K mg "_law_less" ["loop", "number"] s__law_less := ⟨f__law_less, _, F__law_less, PySem.W.mg_of X G a__law_less, F__law_less.binds (ps := ["loop", "number"]) fun _ _ _ _ _ _ us hl => match us, hl with | [_, _], _ => rfl⟩
  have F__law_cut := fun_mk (st := s__law_cut) l__law_cut co__law_cut k__law_cut
  have T__law_cut : TopD K mg "_law_cut" ["body", "first", "gone"] s__law_cut := ⟨f__law_cut, _, F__law_cut, PySem.W.mg_of X G a__law_cut, F__law_cut.binds (ps := ["body", "first", "gone"]) fun _ _ _ _ _ _ us hl => match us, hl with | [_, _, _], _ => rfl⟩
  have F__law_size := fun_mk (st := s__law_size) l__law_size co__law_size k__law_size
  have T__law_size : TopD K mg "_law_size" ["body"] s__law_size := ⟨f__law_size, _, F__law_size, PySem.W.mg_of X G a__law_size, F__law_size.binds (ps := ["body"]) fun _ _ _ _ _ _ us hl => match us, hl with | [_], _ => rfl⟩
  have c__law_size_0 := ok__law_size (P := P) (w := w) (base := base) (k := 0) (d := 0) T__law_size (c__law_size := (low_none T__law_size rfl fun _ _ _ _ h => absurd h.1 (by decide)))
  have c__law_cut_0 := ok__law_cut (P := P) (w := w) (base := base) (k := 1) (d := 0) T__law_cut (c__law_cut := (low_none T__law_cut rfl fun _ _ _ _ h => absurd h.1 (by decide))) (c__law_size := (c__law_size_0.up (by decide)))
  have c__law_size_1 := ok__law_size (P := P) (w := w) (base := base) (k := 1) (d := 1) T__law_size (c__law_size := (c__law_size_0.up (by decide) |>.wk fun _ _ _ _ h => h.2))
  have c__law_cut_1 := ok__law_cut (P := P) (w := w) (base := base) (k := 2) (d := 1) T__law_cut (c__law_cut := (c__law_cut_0.up (by decide) |>.wk fun _ _ _ _ h => h.2)) (c__law_size := (c__law_size_1.up (by decide)))
  have c__law_size_2 := ok__law_size (P := P) (w := w) (base := base) (k := 2) (d := 2) T__law_size (c__law_size := (c__law_size_1.up (by decide) |>.wk fun _ _ _ _ h => h.2))
  have c__law_cut_2 := ok__law_cut (P := P) (w := w) (base := base) (k := 3) (d := 2) T__law_cut (c__law_cut := (c__law_cut_1.up (by decide) |>.wk fun _ _ _ _ h => h.2)) (c__law_size := (c__law_size_2.up (by decide)))
  have c__law_size_3 := ok__law_size (P := P) (w := w) (base := base) (k := 3) (d := 3) T__law_size (c__law_size := (c__law_size_2.up (by decide) |>.wk fun _ _ _ _ h => h.2))
  have c__law_cut_3 := ok__law_cut (P := P) (w := w) (base := base) (k := 4) (d := 3) T__law_cut (c__law_cut := (c__law_cut_2.up (by decide) |>.wk fun _ _ _ _ h => h.2)) (c__law_size := (c__law_size_3.up (by decide)))
  have c__law_less := ok__law_less (P := P) (w := w) (base := base) (k := 5) T__law_less (c__law_cut := (c__law_cut_3.up (by decide)))
  have F__law_loop := fun_mk (st := s__law_loop) l__law_loop co__law_loop k__law_loop
  have T__law_loop : TopD K mg "_law_loop" ["source"] s__law_loop := ⟨f__law_loop, _, F__law_loop, PySem.W.mg_of X G a__law_loop, F__law_loop.binds (ps := ["source"]) fun _ _ _ _ _ _ us hl => match us, hl with | [_], _ => rfl⟩
  have F__law_draw := fun_mk (st := s__law_draw) l__law_draw co__law_draw k__law_draw
  have T__law_draw : TopD K mg "_law_draw" ["source", "many"] s__law_draw := ⟨f__law_draw, _, F__law_draw, PySem.W.mg_of X G a__law_draw, F__law_draw.binds (ps := ["source", "many"]) fun _ _ _ _ _ _ us hl => match us, hl with | [_, _], _ => rfl⟩
  have c__law_draw := ok__law_draw (P := P) (w := w) (base := base) (k := 0) T__law_draw (m_int := m_int)
  have F__law_bent := fun_mk (st := s__law_bent) l__law_bent co__law_bent k__law_bent
  have T__law_bent : TopD K mg "_law_bent" ["source", "body"] s__law_bent := ⟨f__law_bent, _, F__law_bent, PySem.W.mg_of X G a__law_bent, F__law_bent.binds (ps := ["source", "body"]) fun _ _ _ _ _ _ us hl => match us, hl with | [_, _], _ => rfl⟩
  have F__law_simple := fun_mk (st := s__law_simple) l__law_simple co__law_simple k__law_simple
  have T__law_simple : TopD K mg "_law_simple" ["source"] s__law_simple := ⟨f__law_simple, _, F__law_simple, PySem.W.mg_of X G a__law_simple, F__law_simple.binds (ps := ["source"]) fun _ _ _ _ _ _ us hl => match us, hl with | [_], _ => rfl⟩
  have F__law_of := fun_mk (st := s__law_of) l__law_of co__law_of k__law_of
  have T__law_of : TopD K mg "_law_of" ["source", "items"] s__law_of := ⟨f__law_of, _, F__law_of, PySem.W.mg_of X G a__law_of, F__law_of.binds (ps := ["source", "items"]) fun _ _ _ _ _ _ us hl => match us, hl with | [_, _], _ => rfl⟩
  have c__law_of := ok__law_of (P := P) (w := w) (base := base) (k := 1) T__law_of (c__law_draw := (c__law_draw.up (by decide))) (m_len := m_len)
  have c__law_simple := ok__law_simple (P := P) (w := w) (base := base) (k := 2) T__law_simple (c__law_of := (c__law_of.up (by decide))) (c__law_draw := (c__law_draw.up (by decide)))
  have c__law_bent := ok__law_bent (P := P) (w := w) (base := base) (k := 3) T__law_bent (c__law_simple := (c__law_simple.up (by decide))) (c__law_draw := (c__law_draw.up (by decide))) (m_len := m_len)
  have F__law_known := fun_mk (st := s__law_known) l__law_known co__law_known k__law_known
  have T__law_known : TopD K mg "_law_known" ["source"] s__law_known := ⟨f__law_known, _, F__law_known, PySem.W.mg_of X G a__law_known, F__law_known.binds (ps := ["source"]) fun _ _ _ _ _ _ us hl => match us, hl with | [_], _ => rfl⟩
  have c__law_known := ok__law_known (P := P) (w := w) (base := base) (k := 2) T__law_known (c__law_of := (c__law_of.up (by decide))) (c__law_draw := (c__law_draw.up (by decide)))
  have F__law_body := fun_mk (st := s__law_body) l__law_body co__law_body k__law_body
  have T__law_body : TopD K mg "_law_body" ["source", "deep", "most"] s__law_body := ⟨f__law_body, _, F__law_body, PySem.W.mg_of X G a__law_body, F__law_body.binds (ps := ["source", "deep", "most"]) fun _ _ _ _ _ _ us hl => match us, hl with | [_, _, _], _ => rfl⟩
  have c__law_body_1 := ok__law_body (P := P) (w := w) (base := base) (k := 3) (d := 1) T__law_body (m_range := m_range) (c__law_draw := (c__law_draw.up (by decide))) (c__law_body := (low_none T__law_body rfl fun _ _ _ _ h => absurd h.1 (by decide))) (c__law_of := (c__law_of.up (by decide))) (c__law_simple := (c__law_simple.up (by decide))) (hd := (by decide))
  have c__law_body_2 := ok__law_body (P := P) (w := w) (base := base) (k := 4) (d := 2) T__law_body (m_range := m_range) (c__law_draw := (c__law_draw.up (by decide))) (c__law_body := (c__law_body_1.up (by decide) |>.wk fun _ _ _ _ h => h.2)) (c__law_of := (c__law_of.up (by decide))) (c__law_simple := (c__law_simple.up (by decide))) (hd := (by decide))
  have c__law_body_3 := ok__law_body (P := P) (w := w) (base := base) (k := 5) (d := 3) T__law_body (m_range := m_range) (c__law_draw := (c__law_draw.up (by decide))) (c__law_body := (c__law_body_2.up (by decide) |>.wk fun _ _ _ _ h => h.2)) (c__law_of := (c__law_of.up (by decide))) (c__law_simple := (c__law_simple.up (by decide))) (hd := (by decide))
  have c__law_loop := ok__law_loop (P := P) (w := w) (base := base) (k := 6) T__law_loop (c__law_draw := (c__law_draw.up (by decide))) (c__law_size := (c__law_size_3.up (by decide))) (c__law_bent := (c__law_bent.up (by decide))) (c__law_known := (c__law_known.up (by decide))) (c__law_body := (c__law_body_3.up (by decide)))
  have F__law_source := fun_mk (st := s__law_source) l__law_source co__law_source k__law_source
  have T__law_source : TopD K mg "_law_source" ["script", "k"] s__law_source := ⟨f__law_source, _, F__law_source, PySem.W.mg_of X G a__law_source, F__law_source.binds (ps := ["script", "k"]) fun _ _ _ _ _ _ us hl => match us, hl with | [_, _], _ => rfl⟩
  have m_abs : mg "abs" = none := PySem.W.mg_none_of X G z_abs
  have c__law_source := ok__law_source (P := P) (w := w) (base := base) (k := 0) T__law_source (m_int := m_int) (m_len := m_len) (m_abs := m_abs)
  exact ok_law (k := 15) F_law (m_range := m_range) (c_without := (c_without.up (by decide))) (m_min := m_min) (m_len := m_len) (c__law_refused := (c__law_refused.up (by decide))) (c_statements := (c_statements.up (by decide))) (c_is_loop := (c_is_loop.up (by decide))) (c__law_less := (c__law_less.up (by decide))) (c__law_size := (c__law_size_3.up (by decide))) (c__law_loop := (c__law_loop.up (by decide))) (c__law_source := (c__law_source.up (by decide)))
end Kp
open PySem PySem.W PyProof.Rows
set_option maxRecDepth 100000 in
set_option maxHeartbeats 0 in
theorem PySem.Challenge.cw_keptpace_k12_statements_left_out_holds : PySem.Challenge.rw_keptpace_k12_statements_left_out.Holds := by
  w_on; o_law; k_head; (case hw => w_witness2)
  k_fill
  refine L2.walk_of (l := PySem.Challenge.rw_keptpace_k12_statements_left_out) (n := 63) (k := 16) (x := "script") (CX := fun w => L2.CX (PySem.Challenge.rw_keptpace_k12_statements_left_out).prog w) (sp := fun w => Pl.spP _ 1 Kt.φ_law) rfl (by decide) rfl ⟨rfl, by decide, by decide⟩ (fun w h Y => PySem.W.kIn_of Y) ?F (fun _ _ a ns hl hO hS => Pl.law_sp (fun ds Wo Q E e h => by subst e; exact ⟨ns, rfl, hl, h⟩) hO hS) fun _ _ _ _ _ z => Pl.cx_end z
  case F =>
    intro w mg fa h KX G hmg
    refine' Kp.top_mk KX G hmg ?a_law ?l_law ?co_law ?k_law ?z_range ?a_without ?l_without ?co_without ?k_without ?a_less_one ?l_less_one ?co_less_one ?k_less_one ?a_body_without ?l_body_without ?co_body_without ?k_body_without ?a_bodies_of ?l_bodies_of ?co_bodies_of ?k_bodies_of ?z_list ?z_len ?a_listed ?l_listed ?co_listed ?k_listed ?a_need_statement_number ?l_need_statement_number ?co_need_statement_number ?k_need_statement_number ?a_is_number ?l_is_number ?co_is_number ?k_is_number ?z_isinstance ?z_bool ?z_int ?aE_InvalidNumber ?xE_InvalidNumber ?kE_InvalidNumber ?bE_InvalidNumber ?tE_InvalidNumber ?a_need_loop ?l_need_loop ?co_need_loop ?k_need_loop ?a_is_loop ?l_is_loop ?co_is_loop ?k_is_loop ?v_MOST_STATEMENTS ?a_is_body ?l_is_body ?co_is_body ?k_is_body ?z_all ?a_is_statement ?l_is_statement ?co_is_statement ?k_is_statement ?a_is_counted ?l_is_counted ?co_is_counted ?k_is_counted ?v_MOST_TIME ?v_LEAST_NUMBERS ?lk_LEAST_NUMBERS ?kk_LEAST_NUMBERS ?e0_LEAST_NUMBERS ?e1_LEAST_NUMBERS ?e2_LEAST_NUMBERS ?e3_LEAST_NUMBERS ?e4_LEAST_NUMBERS ?e5_LEAST_NUMBERS ?a_is_test ?l_is_test ?co_is_test ?k_is_test ?a_is_worded ?l_is_worded ?co_is_worded ?k_is_worded ?z_str ?z_tuple ?v_MOST_DEEP ?aE_InvalidLoop ?xE_InvalidLoop ?kE_InvalidLoop ?bE_InvalidLoop ?tE_InvalidLoop ?z_min ?a__law_refused ?l__law_refused ?co__law_refused ?k__law_refused ?aE_PaceError ?xE_PaceError ?kE_PaceError ?bE_PaceError ?tE_PaceError ?hg_InvalidNumber ?hk_InvalidNumber ?hd_InvalidNumber ?ha_InvalidNumber ?hn_0 ?ht_0 ?hm_InvalidNumber ?ic_PaceError ?sb_InvalidNumber_PaceError ?ic_InvalidNumber ?sb_InvalidNumber_InvalidNumber ?a_statements ?l_statements ?co_statements ?k_statements ?a_words_of ?l_words_of ?co_words_of ?k_words_of ?a__law_less ?l__law_less ?co__law_less ?k__law_less ?a__law_cut ?l__law_cut ?co__law_cut ?k__law_cut ?a__law_size ?l__law_size ?co__law_size ?k__law_size ?a__law_loop ?l__law_loop ?co__law_loop ?k__law_loop ?a__law_draw ?l__law_draw ?co__law_draw ?k__law_draw ?a__law_bent ?l__law_bent ?co__law_bent ?k__law_bent ?a__law_simple ?l__law_simple ?co__law_simple ?k__law_simple ?a__law_of ?l__law_of ?co__law_of ?k__law_of ?a__law_known ?l__law_known ?co__law_known ?k__law_known ?a__law_body ?l__law_body ?co__law_body ?k__law_body ?a__law_source ?l__law_source ?co__law_source ?k__law_source ?z_abs
    (case a_law => k_is)
    (case l_law => k_is)
    (case co_law => k_is)
    (case k_law => k_is)
    (case z_range => k_is)
    (case a_without => k_is)
    (case l_without => k_is)
    (case co_without => k_is)
    (case k_without => k_is)
    (case a_less_one => k_is)
    (case l_less_one => k_is)
    (case co_less_one => k_is)
    (case k_less_one => k_is)
    (case a_body_without => k_is)
    (case l_body_without => k_is)
    (case co_body_without => k_is)
    (case k_body_without => k_is)
    (case a_bodies_of => k_is)
    (case l_bodies_of => k_is)
    (case co_bodies_of => k_is)
    (case k_bodies_of => k_is)
    (case z_list => k_is)
    (case z_len => k_is)
    (case a_listed => k_is)
    (case l_listed => k_is)
    (case co_listed => k_is)
    (case k_listed => k_is)
    (case a_need_statement_number => k_is)
    (case l_need_statement_number => k_is)
    (case co_need_statement_number => k_is)
    (case k_need_statement_number => k_is)
    (case a_is_number => k_is)
    (case l_is_number => k_is)
    (case co_is_number => k_is)
    (case k_is_number => k_is)
    (case z_isinstance => k_is)
    (case z_bool => k_is)
    (case z_int => k_is)
    (case aE_InvalidNumber => k_is)
    (case xE_InvalidNumber => k_exc)
    (case kE_InvalidNumber => k_is)
    (case bE_InvalidNumber => k_is)
    (case tE_InvalidNumber => k_is)
    (case a_need_loop => k_is)
    (case l_need_loop => k_is)
    (case co_need_loop => k_is)
    (case k_need_loop => k_is)
    (case a_is_loop => k_is)
    (case l_is_loop => k_is)
    (case co_is_loop => k_is)
    (case k_is_loop => k_is)
    (case v_MOST_STATEMENTS => k_is)
    (case a_is_body => k_is)
    (case l_is_body => k_is)
    (case co_is_body => k_is)
    (case k_is_body => k_is)
    (case z_all => k_is)
    (case a_is_statement => k_is)
    (case l_is_statement => k_is)
    (case co_is_statement => k_is)
    (case k_is_statement => k_is)
    (case a_is_counted => k_is)
    (case l_is_counted => k_is)
    (case co_is_counted => k_is)
    (case k_is_counted => k_is)
    (case v_MOST_TIME => k_is)
    (case v_LEAST_NUMBERS => k_is)
    (case lk_LEAST_NUMBERS => k_is)
    (case kk_LEAST_NUMBERS => k_keys)
    (case e0_LEAST_NUMBERS => k_is)
    (case e1_LEAST_NUMBERS => k_is)
    (case e2_LEAST_NUMBERS => k_is)
    (case e3_LEAST_NUMBERS => k_is)
    (case e4_LEAST_NUMBERS => k_is)
    (case e5_LEAST_NUMBERS => k_is)
    (case a_is_test => k_is)
    (case l_is_test => k_is)
    (case co_is_test => k_is)
    (case k_is_test => k_is)
    (case a_is_worded => k_is)
    (case l_is_worded => k_is)
    (case co_is_worded => k_is)
    (case k_is_worded => k_is)
    (case z_str => k_is)
    (case z_tuple => k_is)
    (case v_MOST_DEEP => k_is)
    (case aE_InvalidLoop => k_is)
    (case xE_InvalidLoop => k_exc)
    (case kE_InvalidLoop => k_is)
    (case bE_InvalidLoop => k_is)
    (case tE_InvalidLoop => k_is)
    (case z_min => k_is)
    (case a__law_refused => k_is)
    (case l__law_refused => k_is)
    (case co__law_refused => k_is)
    (case k__law_refused => k_is)
    (case aE_PaceError => k_is)
    (case xE_PaceError => k_exc)
    (case kE_PaceError => k_is)
    (case bE_PaceError => k_is)
    (case tE_PaceError => k_is)
    (case hg_InvalidNumber => k_is)
    (case hk_InvalidNumber => k_is)
    (case hd_InvalidNumber => k_is)
    (case ha_InvalidNumber => k_is)
    (case hn_0 => k_is)
    (case ht_0 => k_is)
    (case hm_InvalidNumber => k_is)
    (case ic_PaceError => k_is)
    (case sb_InvalidNumber_PaceError => first | rfl | k_is)
    (case ic_InvalidNumber => k_is)
    (case sb_InvalidNumber_InvalidNumber => first | rfl | k_is)
    (case a_statements => k_is)
    (case l_statements => k_is)
    (case co_statements => k_is)
    (case k_statements => k_is)
    (case a_words_of => k_is)
    (case l_words_of => k_is)
    (case co_words_of => k_is)
    (case k_words_of => k_is)
    (case a__law_less => k_is)
    (case l__law_less => k_is)
    (case co__law_less => k_is)
    (case k__law_less => k_is)
    (case a__law_cut => k_is)
    (case l__law_cut => k_is)
    (case co__law_cut => k_is)
    (case k__law_cut => k_is)
    (case a__law_size => k_is)
    (case l__law_size => k_is)
    (case co__law_size => k_is)
    (case k__law_size => k_is)
    (case a__law_loop => k_is)
    (case l__law_loop => k_is)
    (case co__law_loop => k_is)
    (case k__law_loop => k_is)
    (case a__law_draw => k_is)
    (case l__law_draw => k_is)
    (case co__law_draw => k_is)
    (case k__law_draw => k_is)
    (case a__law_bent => k_is)
    (case l__law_bent => k_is)
    (case co__law_bent => k_is)
    (case k__law_bent => k_is)
    (case a__law_simple => k_is)
    (case l__law_simple => k_is)
    (case co__law_simple => k_is)
    (case k__law_simple => k_is)
    (case a__law_of => k_is)
    (case l__law_of => k_is)
    (case co__law_of => k_is)
    (case k__law_of => k_is)
    (case a__law_known => k_is)
    (case l__law_known => k_is)
    (case co__law_known => k_is)
    (case k__law_known => k_is)
    (case a__law_body => k_is)
    (case l__law_body => k_is)
    (case co__law_body => k_is)
    (case k__law_body => k_is)
    (case a__law_source => k_is)
    (case l__law_source => k_is)
    (case co__law_source => k_is)
    (case k__law_source => k_is)
    (case z_abs => k_is)
#print axioms PySem.Challenge.cw_keptpace_k12_statements_left_out_holds
