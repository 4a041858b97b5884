import PyProof.Rows.All
import Wide.All
import OpenK.AllK
import Wide.FinOn
import HandS.ForMost
import HandS.ForExc
import HandS.Deep
import HandS.TupAny
import HandS.IsInst
import HandS.SortInts
import HandS.Wide
import HandS.More
import HandS.ExcIs
import HandS.Conv
import HandS.Style
import PySem.Challenge.RW_keptpace_k02_rounds_done
set_option Elab.async false
set_option linter.all false
set_option maxRecDepth 100000
set_option maxHeartbeats 4000000
/-! Pl: a pure layer over the hand layer. Data D, representation by objects that never change, own objects, judgements. -/
namespace Pl
open PySem PySem.Spec L2
/-- data: what a value stands for, deep -/
inductive D where
  | non | bl (b : Bool) | int (i : Int) | str (x : Str) | tup (xs : List D) | lst (xs : List D) | dct (ks vs : List D) | adr (a : Addr) | ty (n : String)
/-- an object that never changes -/
def Perm : HO → Prop
  | .tup _ => True
  | .frz _ _ => True
  | _ => False
/-- a list that nobody changes any more -/
def FzL (K : PySem.W.Frag) (H : Hp) (a : Addr) (xs : List V) : Prop :=
  (∃ o, H a = some (.frz o (.lst xs))) ∨
    ∃ (o : Obj) (its : Array Value) (n : Nat), K.lookup a = some o ∧ o.cls = .type "list" ∧ o.dict = none ∧ o.data = .seq its n ∧ its.size ≤ sizeLine ∧ Vals xs its.toList
theorem FzL.sq {K : PySem.W.Frag} {H : Hp} {a : Addr} {xs : List V} (h : FzL K H a xs) : SqL K H a xs := by
  rcases h with ⟨o, h⟩ | h
  · exact .inl (.inr ⟨o, h⟩)
  · exact .inr h
/-- what a dict object says: its keys and values in order (flat keys) -/
def keyD : Key → D
  | .inl i => .int i
  | .inr x => .str x
mutual
inductive Rep (K : PySem.W.Frag) (H : Hp) : V → D → Prop
  | non : Rep K H .non .non
  | bl (b : Bool) : Rep K H (.bl b) (.bl b)
  | int (i : Int) : Rep K H (.int i) (.int i)
  | str (x : Str) : Rep K H (.str x) (.str x)
  | tup {a : Addr} {xs : List V} {ds : List D} : SqT K H a xs → RepAll K H xs ds → Rep K H (.ref a) (.tup ds)
  | lst {a : Addr} {xs : List V} {ds : List D} : FzL K H a xs → RepAll K H xs ds → Rep K H (.ref a) (.lst ds)
  | dct {a : Addr} {o : Obj} {kvs : List (Key × V)} {ds : List D} : H a = some (.frz o (.dK kvs)) → RepAll K H (kvs.map (·.2)) ds → Rep K H (.ref a) (.dct (kvs.map fun p => keyD p.1) ds)
  | adr (a : Addr) : Rep K H (.ref a) (.adr a)
  | ty (n : String) : Rep K H (.ty n) (.ty n)
inductive RepAll (K : PySem.W.Frag) (H : Hp) : List V → List D → Prop
  | nil : RepAll K H [] []
  | cons {v : V} {vs : List V} {d : D} {ds : List D} : Rep K H v d → RepAll K H vs ds → RepAll K H (v :: vs) (d :: ds)
end
/-- from H to H' only the objects at A may have changed, and what is permanent stands -/
def Step (A : Addr → Prop) (H H' : Hp) : Prop := ∀ b o, H b = some o → (Perm o ∨ ¬ A b) → H' b = some o
theorem Step.refl {A : Addr → Prop} {H : Hp} : Step A H H := fun _ _ h _ => h
theorem Step.mono {A B : Addr → Prop} {H H' : Hp} (s : Step A H H') (h : ∀ a, A a → B a) : Step B H H' := fun b o e q => s b o e (q.imp id fun n z => n (h b z))
theorem Step.of_same {A : Addr → Prop} {H H' : Hp} (s : Same H H') : Step A H H' := fun b o e _ => s b o e
theorem Step.new {A : Addr → Prop} {H : Hp} {p : Addr} {o : HO} (h : H p = none) : Step A H (upd H p o) := fun b u e _ => by
  rw [upd_ne (ne_of_none e h)]; exact e
section
variable {K : PySem.W.Frag} {A : Addr → Prop} {H H' : Hp}
theorem Step.tup {a : Addr} {xs : List V} (s : Step A H H') (h : SqT K H a xs) : SqT K H' a xs := by
  rcases h with (h | ⟨o, h⟩) | h
  · exact .inl (.inl (s _ _ h (.inl trivial)))
  · exact .inl (.inr ⟨o, s _ _ h (.inl trivial)⟩)
  · exact .inr h
theorem Step.fzl {a : Addr} {xs : List V} (s : Step A H H') (h : FzL K H a xs) : FzL K H' a xs := by
  rcases h with ⟨o, h⟩ | h
  · exact .inl ⟨o, s _ _ h (.inl trivial)⟩
  · exact .inr h
mutual
theorem Rep.step (s : Step A H H') : ∀ {v : V} {d : D}, Rep K H v d → Rep K H' v d
  | _, _, .non => .non
  | _, _, .bl b => .bl b
  | _, _, .int i => .int i
  | _, _, .str x => .str x
  | _, _, .tup h r => .tup (s.tup h) (RepAll.step s r)
  | _, _, .lst h r => .lst (s.fzl h) (RepAll.step s r)
  | _, _, .dct h r => .dct (s _ _ h (.inl trivial)) (RepAll.step s r)
  | _, _, .adr a => .adr a
  | _, _, .ty n => .ty n
theorem RepAll.step (s : Step A H H') : ∀ {vs : List V} {ds : List D}, RepAll K H vs ds → RepAll K H' vs ds
  | _, _, .nil => .nil
  | _, _, .cons h r => .cons (Rep.step s h) (RepAll.step s r)
end
theorem RepAll.length : ∀ {vs : List V} {ds : List D}, RepAll K H vs ds → vs.length = ds.length
  | _, _, .nil => rfl
  | _, _, .cons _ r => congrArg (· + 1) (RepAll.length r)
theorem RepAll.get : ∀ {vs : List V} {ds : List D} {i : Nat} {d : D}, RepAll K H vs ds → ds[i]? = some d → ∃ v, vs[i]? = some v ∧ Rep K H v d
  | _, _, _, _, .nil, e => by simp at e
  | _, _, 0, _, .cons h _, e => by simp at e; subst e; exact ⟨_, rfl, h⟩
  | _, _, i + 1, d, .cons _ r, e => by
    obtain ⟨v, h1, h2⟩ := RepAll.get (i := i) (d := d) r (by simpa using e)
    exact ⟨v, by simpa using h1, h2⟩
theorem RepAll.getV : ∀ {vs : List V} {ds : List D} {i : Nat} {v : V}, RepAll K H vs ds → vs[i]? = some v → ∃ d, ds[i]? = some d ∧ Rep K H v d
  | _, _, _, _, .nil, e => by simp at e
  | _, _, 0, _, .cons h _, e => by simp at e; subst e; exact ⟨_, rfl, h⟩
  | _, _, i + 1, v, .cons _ r, e => by
    obtain ⟨d, h1, h2⟩ := RepAll.getV (i := i) (v := v) r (by simpa using e)
    exact ⟨d, by simpa using h1, h2⟩
theorem RepAll.append : ∀ {vs ws : List V} {ds es : List D}, RepAll K H vs ds → RepAll K H ws es → RepAll K H (vs ++ ws) (ds ++ es)
  | _, _, _, _, .nil, s => s
  | _, _, _, _, .cons h r, s => .cons h (RepAll.append r s)
theorem RepAll.take : ∀ {vs : List V} {ds : List D} (n : Nat), RepAll K H vs ds → RepAll K H (vs.take n) (ds.take n)
  | _, _, 0, _ => .nil
  | _, _, _ + 1, .nil => .nil
  | _, _, n + 1, .cons h r => .cons h (RepAll.take n r)
theorem RepAll.drop : ∀ {vs : List V} {ds : List D} (n : Nat), RepAll K H vs ds → RepAll K H (vs.drop n) (ds.drop n)
  | _, _, 0, r => r
  | _, _, _ + 1, .nil => .nil
  | _, _, n + 1, .cons _ r => RepAll.drop n r
theorem RepAll.set {v : V} {d : D} (h : Rep K H v d) : ∀ {vs : List V} {ds : List D} (i : Nat), RepAll K H vs ds → RepAll K H (vs.set i v) (ds.set i d)
  | _, _, _, .nil => .nil
  | _, _, 0, .cons _ r => .cons h r
  | _, _, i + 1, .cons q r => .cons q (RepAll.set h i r)
end
/-! ### own objects -/
/-- the content of an object that may be changed -/
inductive Own where
  | lst (xs : List D) | dct (ks vs : List D)
/-- a slot of the frame: nothing that is known, a value, an object that only this name holds -/
inductive Slot where
  | emp | val (d : D) | own (o : Own)
def OwnAt (K : PySem.W.Frag) (H : Hp) (a : Addr) : Own → Prop
  | .lst ds => ∃ xs, H a = some (.lst xs) ∧ RepAll K H xs ds
  | .dct ks ds => ∃ kvs : List (Key × V), H a = some (.dK kvs) ∧ ks = kvs.map (fun p => keyD p.1) ∧ RepAll K H (kvs.map (·.2)) ds
/-- the state: the slots, and the shared own objects -/
structure Sta where
  ρ : List Slot
  W : Addr → Option Own
def SlotOk (K : PySem.W.Frag) (H : Hp) (x : Option (Option V)) : Slot → Prop
  | .emp => True
  | .val d => ∃ v, x = some (some v) ∧ Rep K H v d
  | .own o => ∃ a, x = some (some (.ref a)) ∧ OwnAt K H a o
/-- the slot i holds the own object at a -/
def OwnS (σ : St) (ρ : List Slot) (i : Nat) (a : Addr) : Prop := (∃ o, ρ[i]? = some (.own o)) ∧ σ[i]? = some (some (.ref a))
def RelW (K : PySem.W.Frag) (H : Hp) (W : Addr → Option Own) : Prop := ∀ a o, W a = some o → OwnAt K H a o
structure Rel (K : PySem.W.Frag) (H : Hp) (σ : St) (S : Sta) : Prop where
  len : σ.length = S.ρ.length
  slot : ∀ (i : Nat) s, S.ρ[i]? = some s → SlotOk K H σ[i]? s
  inj : ∀ (i j : Nat) a, OwnS σ S.ρ i a → OwnS σ S.ρ j a → i = j
  wor : RelW K H S.W
  dis : ∀ (i : Nat) a, OwnS σ S.ρ i a → S.W a = none
/-- what may change -/
def Oa (σ : St) (S : Sta) (a : Addr) : Prop := (∃ i, OwnS σ S.ρ i a) ∨ S.W a ≠ none
/-- how a part of the code goes from one state to the next -/
structure Nx (σ : St) (S : Sta) (H : Hp) (σ' : St) (S' : Sta) (H' : Hp) : Prop where
  st : Step (Oa σ S) H H'
  kn : ∀ b, H' b = none → H b = none
  oa : ∀ a, Oa σ' S' a → Oa σ S a ∨ H a = none
theorem Nx.refl {σ : St} {S : Sta} {H : Hp} : Nx σ S H σ S H := ⟨Step.refl, fun _ h => h, fun _ h => .inl h⟩
theorem OwnAt.at {K : PySem.W.Frag} {H : Hp} {a : Addr} {o : Own} (h : OwnAt K H a o) : ∃ u, H a = some u ∧ ¬ Perm u ∧ Mut (some u) := by
  cases o with
  | lst ds => obtain ⟨xs, h, _⟩ := h; exact ⟨_, h, fun z => z, trivial⟩
  | dct ks ds => obtain ⟨xs, h, _⟩ := h; exact ⟨_, h, fun z => z, trivial⟩
theorem OwnAt.step {K : PySem.W.Frag} {A : Addr → Prop} {H H' : Hp} {a : Addr} {o : Own} (s : Step A H H') (n : ¬ A a) (h : OwnAt K H a o) : OwnAt K H' a o := by
  cases o with
  | lst ds => obtain ⟨xs, h, r⟩ := h; exact ⟨xs, s _ _ h (.inr n), r.step s⟩
  | dct ks ds => obtain ⟨xs, h, e, r⟩ := h; exact ⟨xs, s _ _ h (.inr n), e, r.step s⟩
section
variable {K : PySem.W.Frag} {A : Addr → Prop} {H H' H2 : Hp} {σ σ' σ2 : St} {S S' S2 : Sta}
theorem Rel.known (r : Rel K H σ S) {a : Addr} (h : Oa σ S a) : ∃ u, H a = some u ∧ ¬ Perm u ∧ Mut (some u) := by
  rcases h with ⟨i, ⟨o, e⟩, q⟩ | h
  · obtain ⟨b, e2, z⟩ := r.slot i _ e
    rw [q] at e2; cases e2
    exact z.at
  · cases e : S.W a with
    | none => exact absurd e h
    | some o => exact (r.wor a o e).at
/-- nothing of ours was touched -/
theorem Rel.step (r : Rel K H σ S) (s : Step A H H') (n : ∀ a, Oa σ S a → ¬ A a) : Rel K H' σ S where
  len := r.len
  slot := fun i s' e => by
    have q := r.slot i s' e
    cases s' with
    | emp => trivial
    | val d => obtain ⟨v, h1, h2⟩ := q; exact ⟨v, h1, h2.step s⟩
    | own o => obtain ⟨a, h1, h2⟩ := q; exact ⟨a, h1, h2.step s (n a (.inl ⟨i, ⟨o, e⟩, h1⟩))⟩
  inj := r.inj
  wor := fun a o e => (r.wor a o e).step s (n a (.inr (by rw [e]; exact fun z => nomatch z)))
  dis := r.dis
theorem Rel.same (r : Rel K H σ S) (s : Same H H') : Rel K H' σ S := r.step (A := fun _ => False) (Step.of_same s) fun _ _ z => z
theorem same_kn (s : Same H H') : ∀ b, H' b = none → H b = none := fun b h => by
  cases q : H b with
  | none => rfl
  | some o => rw [s b o q] at h; cases h
theorem Nx.same (s : Same H H') : Nx σ S H σ S H' := ⟨Step.of_same s, same_kn s, fun _ h => .inl h⟩
theorem Nx.trans (a : Nx σ S H σ' S' H') (b : Nx σ' S' H' σ2 S2 H2) : Nx σ S H σ2 S2 H2 where
  st := fun x o e q => by
    have e1 := a.st x o e q
    refine b.st x o e1 (q.imp id fun n z => ?_)
    rcases a.oa x z with z | z
    · exact n z
    · rw [e] at z; cases z
  kn := fun x h => a.kn x (b.kn x h)
  oa := fun x h => by
    rcases b.oa x h with h | h
    · exact a.oa x h
    · exact .inr (a.kn x h)
theorem same_new {p : Addr} {o : HO} (h : H p = none) : Same H (upd H p o) := fun b u e => by rw [upd_ne (ne_of_none e h)]; exact e
end
/-! ### freezing: a list, a dict that nobody will change -/
theorem Inv.freeze {X : Cx} {pins : List (Addr × Obj)} {σ : St} {H : Hp} {s : Shared} {a : Addr} {u : HO} (I : Inv X pins σ H s) (h : H a = some u) (m : (∃ xs, u = .lst xs) ∨ ∃ kvs, u = .dK kvs) :
    ∃ o, Inv X pins σ (upd H a (.frz o u)) s := by
  have np : ∀ xs, u ≠ .tup xs := fun xs e => by rcases m with ⟨_, rfl⟩ | ⟨_, rfl⟩ <;> cases e
  have no : ∀ x, u ≠ .own x := fun xs e => by rcases m with ⟨_, rfl⟩ | ⟨_, rfl⟩ <;> cases e
  have nf : ∀ o w, u ≠ .frz o w := fun _ _ e => by rcases m with ⟨_, rfl⟩ | ⟨_, rfl⟩ <;> cases e
  have nt : ∀ ps, u ≠ .tbl ps := fun xs e => by rcases m with ⟨_, rfl⟩ | ⟨_, rfl⟩ <;> cases e
  have ok := I.hok a u h
  obtain ⟨o, ho⟩ := objOk_get ok
  refine ⟨o, ?_⟩
  have ne : ∀ b w, H b = some w → w ≠ u → b ≠ a := fun b w e n z => by subst z; rw [h] at e; exact n (Option.some.inj e).symm
  have un : Un X.fs [] H (upd H a (.frz o u)) s.heap s.heap := by
    refine ⟨fun b o e _ _ _ => e, fun b o e _ _ _ => ⟨o.slots, e⟩, fun b o e n _ => ?_, fun b o e _ => ⟨o, e⟩, fun b xs e => ?_, fun b ob w e => ?_, fun b ps e => ⟨#[], ?_⟩⟩
    · rw [upd_ne (ne_of_none h n).symm]; exact n
    · rw [upd_ne (ne b _ e (np xs).symm)]; exact e
    · rw [upd_ne (ne b _ e (nf ob w).symm)]; exact e
    · rw [upd_ne (ne b _ e (nt ps).symm), e]; simp
  have hok : HOk X.prog X.w (upd H a (.frz o u)) s.heap := fun b w e => by
    by_cases hb : b = a
    · subst hb
      rw [upd_same] at e; cases e
      refine ⟨ho, ?_⟩
      rcases m with ⟨xs, rfl⟩ | ⟨kvs, rfl⟩
      · exact ok
      · exact ok
    · rw [upd_ne hb] at e
      exact (I.hok b w e).stay (fun _ _ _ z => z) (fun c z => by rw [upd_ne (ne c _ z (no b).symm)]; exact z) fun c xs z => by rw [upd_ne (ne c _ z (np xs).symm)]; exact z
  exact I.un (t' := s.toks) un hok
/-- behind a rule the new list is frozen -/
def frz (Q : VK) : VK := fun v H => Q v H ∨ ∃ a u, v = .ref a ∧ H a = some u ∧ ((∃ xs, u = .lst xs) ∨ ∃ kvs, u = .dK kvs) ∧ ∀ o, Q v (upd H a (.frz o u))
theorem ep_frz {X : Cx} {pins : List (Addr × Obj)} {σ : St} {Q : VK} {u : Value} {s : Shared} (h : EP X pins σ (frz Q) u s) : EP X pins σ Q u s := by
  obtain ⟨v, H', I, r, q | ⟨a, w, rfl, e, m, q⟩⟩ := h
  · exact ⟨v, H', I, r, q⟩
  · obtain ⟨o, J⟩ := Inv.freeze I e m
    exact ⟨_, _, J, r, q o⟩
def tFrz (t : TE) : TE := fun σ H Q => t σ H (frz Q)
theorem pe_frz {X : Cx} {e : Expr} {t : TE} (h : PE X e t) : PE X e (tFrz t) := ⟨fun pins s σ H Q I q => thn (h.run pins s σ H _ I q) fun _ _ z => ep_frz z⟩
theorem weakE {X : Cx} {e : Expr} {t t' : TE} (h : PE X e t) (w : ∀ σ H Q, t' σ H Q → t σ H Q) : PE X e t' := ⟨fun pins s σ H Q I q => h.run pins s σ H Q I (w _ _ _ q)⟩
theorem weakT {X : Cx} {e : Expr} {t t' : TT} (h : PT X e t) (w : ∀ σ H Q, t' σ H Q → t σ H Q) : PT X e t' := ⟨fun pins s σ H Q I q => h.run pins s σ H Q I (w _ _ _ q)⟩
theorem weakW {X : Cx} {e : Expr} {t t' : TT} (h : PW X e t) (w : ∀ σ H Q, t' σ H Q → t σ H Q) : PW X e t' := ⟨fun wh pins s σ H Q I q => h.run wh pins s σ H Q I (w _ _ _ q)⟩
theorem weakA {X : Cx} {e : List Expr} {t t' : TA} (h : PA X e t) (w : ∀ σ H Q, t' σ H Q → t σ H Q) : PA X e t' := ⟨fun p pins s σ H Q I q => h.run p pins s σ H Q I (w _ _ _ q)⟩
theorem weakS {X : Cx} {st : Stmt} {t t' : TS} (h : L2.PS X st t) (w : ∀ D σ H, t' D σ H → t D σ H) : L2.PS X st t' := ⟨fun pins s σ H D I q => h.run pins s σ H D I (w _ _ _ q)⟩
theorem weakSs {X : Cx} {st : List Stmt} {t t' : TS} (h : PSs X st t) (w : ∀ D σ H, t' D σ H → t D σ H) : PSs X st t' := ⟨fun pins s σ H D I q => h.run pins s σ H D I (w _ _ _ q)⟩
end Pl
set_option Elab.async false
set_option linter.all false
set_option maxRecDepth 100000
set_option maxHeartbeats 4000000
/-! Pl, part 2: the judgements of expressions, tests, arguments -/
namespace Pl
open PySem PySem.Spec L2
/-- an exception: its class, what its attribute 'line' holds -/
structure Exn where
  cls : Value
  line : Option D
def XR (K : PySem.W.Frag) (H : Hp) (x : Exn) (cls : Value) (d : Option Addr) : Prop :=
  x.cls = cls ∧ match x.line with
    | none => d = none
    | some y => ∃ a v, d = some a ∧ H a = some (.xd [("line", v)]) ∧ Rep K H v y
abbrev PQ := D → Sta → Prop
abbrev PX := Exn → Sta → Prop
abbrev PTE := Sta → PQ → PX → Prop
abbrev PTT := Sta → (Bool → Sta → Prop) → PX → Prop
abbrev PTA := Sta → (List D → Sta → Prop) → PX → Prop
def Up (K : PySem.W.Frag) (σ : St) (S : Sta) (H : Hp) (Q : VK) (Q' : PQ) : Prop := ∀ v d H' S', Nx σ S H σ S' H' → Rel K H' σ S' → Rep K H' v d → Q' d S' → Q v H'
def UpT (K : PySem.W.Frag) (σ : St) (S : Sta) (H : Hp) (Q : Bool → Hp → Prop) (Q' : Bool → Sta → Prop) : Prop := ∀ b H' S', Nx σ S H σ S' H' → Rel K H' σ S' → Q' b S' → Q b H'
def UpA (K : PySem.W.Frag) (σ : St) (S : Sta) (H : Hp) (Q : List V → Hp → Prop) (Q' : List D → Sta → Prop) : Prop := ∀ vs ds H' S', Nx σ S H σ S' H' → Rel K H' σ S' → RepAll K H' vs ds → Q' ds S' → Q vs H'
def UpX (K : PySem.W.Frag) (σ : St) (S : Sta) (H : Hp) (W : WX) (E : PX) : Prop := ∀ x cls dd H' S', Nx σ S H σ S' H' → Rel K H' σ S' → XR K H' x cls dd → E x S' → W cls dd σ H'
section
variable {K : PySem.W.Frag} {σ : St} {S S1 : Sta} {H H1 : Hp}
theorem UpX.thn {W : WX} {E : PX} (u : UpX K σ S H W E) (n : Nx σ S H σ S1 H1) : UpX K σ S1 H1 W E := fun x c d H' S' n' r e q => u x c d H' S' (n.trans n') r e q
end
def lE (X : Cx) (W : WX) (t : PTE) : TE := fun σ H Q => ∃ S Q' E', Rel X.K H σ S ∧ t S Q' E' ∧ Up X.K σ S H Q Q' ∧ UpX X.K σ S H W E'
def lT (X : Cx) (W : WX) (t : PTT) : TT := fun σ H Q => ∃ S Q' E', Rel X.K H σ S ∧ t S Q' E' ∧ UpT X.K σ S H Q Q' ∧ UpX X.K σ S H W E'
def lA (X : Cx) (W : WX) (t : PTA) : TA := fun σ H Q => ∃ S Q' E', Rel X.K H σ S ∧ t S Q' E' ∧ UpA X.K σ S H Q Q' ∧ UpX X.K σ S H W E'
/-- the judgements -/
def PM (X : Cx) (e : Expr) (t : PTE) : Prop := ∀ W, Takes X W → PE X e (lE X W t)
def PMT (X : Cx) (e : Expr) (t : PTT) : Prop := ∀ W, Takes X W → PT X e (lT X W t)
def PMW (X : Cx) (e : Expr) (t : PTT) : Prop := ∀ W, Takes X W → PW X e (lT X W t)
def PMA (X : Cx) (es : List Expr) (t : PTA) : Prop := ∀ W, Takes X W → PA X es (lA X W t)
section
variable {X : Cx}
/-! ### constants, names -/
def pC (d : D) : PTE := fun S Q _ => Q d S
theorem pm_c {e : Expr} {v : V} {d : D} (h : PE X e (tC v)) (r : ∀ H, Rep X.K H v d) : PM X e (pC d) := fun W _ => weakE h fun σ H Q => by
  rintro ⟨S, Q', E', rel, q, up, _⟩
  exact up _ _ _ _ .refl rel (r H) q
theorem pm_int {i j pos} : PM X (.Constant (.int i) j pos) (pC (.int i)) := pm_c pe_int fun _ => .int i
theorem pm_bl {b j pos} : PM X (.Constant (.bool b) j pos) (pC (.bl b)) := pm_c pe_bl fun _ => .bl b
theorem pm_non {j pos} : PM X (.Constant .none j pos) (pC .non) := pm_c pe_non fun _ => .non
theorem pm_str {x j pos} : PM X (.Constant (.str x) j pos) (pC (.str x)) := pm_c pe_str fun _ => .str x
/-- a module's name: what it holds does not hang on the heap -/
theorem pm_glob {x : Str} {v : V} {u : Value} {d : D} {pos : Pos} (hg : Gl X x) (hm : X.mg x = some u) (r : RelV v u) (rd : ∀ H, Rep X.K H v d) (hd : (x == ("__debug__" : Str)) = false := by decide) : PM X (.Name x pos) (pC d) := pm_c (pe_glob hg hm r hd) rd
def pVar (i : Nat) : PTE := fun S Q _ => match S.ρ[i]? with
  | some (.val d) => Q d S
  | some (.own (.lst xs)) => Q (.lst xs) ⟨S.ρ.set i (.val (.lst xs)), S.W⟩
  | some (.own (.dct ks vs)) => Q (.dct ks vs) ⟨S.ρ.set i (.val (.dct ks vs)), S.W⟩
  | _ => False
/-- an own object at a slot is frozen -/
theorem Rel.frozen {K : PySem.W.Frag} {H : Hp} {σ : St} {S : Sta} {i : Nat} {a : Addr} {o : Own} {d : D} {u : HO} {ob : Obj} (r : Rel K H σ S) (e : S.ρ[i]? = some (.own o)) (ea : σ[i]? = some (some (.ref a))) (hu : H a = some u)
    (rep : Rep K (upd H a (.frz ob u)) (.ref a) d) :
    Nx σ S H σ ⟨S.ρ.set i (.val d), S.W⟩ (upd H a (.frz ob u)) ∧ Rel K (upd H a (.frz ob u)) σ ⟨S.ρ.set i (.val d), S.W⟩ := by
  have oi : OwnS σ S.ρ i a := ⟨⟨o, e⟩, ea⟩
  have st : ∀ {A : Addr → Prop}, A a → Step A H (upd H a (.frz ob u)) := fun {A} ha b w eb q => by
    by_cases hb : b = a
    · subst hb
      rcases q with q | q
      · obtain ⟨u', e', np, _⟩ := r.known (.inl ⟨i, oi⟩)
        rw [eb] at e'; cases e'; exact absurd q np
      · exact absurd ha q
    · rw [upd_ne hb]; exact eb
  have back : ∀ j b, OwnS σ (S.ρ.set i (.val d)) j b → j ≠ i ∧ OwnS σ S.ρ j b := fun j b h => by
    obtain ⟨⟨o', h1⟩, h2⟩ := h
    by_cases hj : j = i
    · subst hj
      by_cases hl : j < S.ρ.length
      · rw [List.getElem?_set_self hl] at h1; cases h1
      · rw [List.getElem?_eq_none (by simpa using hl)] at h1; cases h1
    · rw [List.getElem?_set_ne (Ne.symm hj)] at h1
      exact ⟨hj, ⟨o', h1⟩, h2⟩
  have sa := st (A := fun x => x = a) rfl
  refine ⟨⟨st (.inl ⟨i, oi⟩), fun b h => ?_, fun x h => ?_⟩, ?_⟩
  · by_cases hb : b = a
    · subst hb; rw [upd_same] at h; cases h
    · rw [upd_ne hb] at h; exact h
  · rcases h with ⟨j, h⟩ | h
    · exact .inl (.inl ⟨j, (back j x h).2⟩)
    · exact .inl (.inr h)
  · refine ⟨by simpa using r.len, fun j s es => ?_, fun j k b h1 h2 => r.inj j k b (back _ _ h1).2 (back _ _ h2).2, fun b o' h => ?_, fun j b h => r.dis j b (back _ _ h).2⟩
    · by_cases hj : j = i
      · subst hj
        have hl : j < S.ρ.length := (List.getElem?_eq_some_iff.mp e).1
        have es' : (S.ρ.set j (.val d))[j]? = some s := es
        rw [List.getElem?_set_self hl] at es'
        cases es'
        exact ⟨_, ea, rep⟩
      · have es' : (S.ρ.set i (.val d))[j]? = some s := es
        rw [List.getElem?_set_ne (Ne.symm hj)] at es'
        have q := r.slot j s es'
        cases s with
        | emp => trivial
        | val d' => obtain ⟨v, h1, h2⟩ := q; exact ⟨v, h1, h2.step sa⟩
        | own o' =>
          obtain ⟨b, h1, h2⟩ := q
          exact ⟨b, h1, h2.step sa fun z => hj (r.inj j i b ⟨⟨o', es'⟩, h1⟩ (z ▸ oi))⟩
    · refine (r.wor b o' h).step sa fun z => ?_
      have z' : b = a := z
      subst z'
      have q : S.W b = none := r.dis i b oi
      rw [show S.W b = some o' from h] at q; cases q
theorem pm_var {i : Nat} {e : Expr} (h : PE X e (tVar i)) : PM X e (pVar i) := fun W _ => weakE (pe_frz h) fun σ H Q => by
  rintro ⟨S, Q', E', rel, q, up, _⟩
  unfold pVar at q
  split at q
  · rename_i d es
    obtain ⟨v, h1, h2⟩ := rel.slot i _ es
    exact ⟨v, h1, .inl (up _ _ _ _ .refl rel h2 q)⟩
  · rename_i xs es
    obtain ⟨a, h1, ys, h2, h3⟩ := rel.slot i _ es
    refine ⟨.ref a, h1, .inr ⟨a, _, rfl, h2, .inl ⟨_, rfl⟩, fun o => ?_⟩⟩
    have rp : Rep X.K (upd H a (.frz o (.lst ys))) (.ref a) (.lst xs) := .lst (.inl ⟨o, upd_same⟩) (h3.step (A := fun x => x = a) fun b w eb q => by
      by_cases hb : b = a
      · subst hb
        rw [h2] at eb; cases eb
        rcases q with q | q
        · exact q.elim
        · exact absurd rfl q
      · rw [upd_ne hb]; exact eb)
    obtain ⟨nx, r'⟩ := rel.frozen es h1 h2 rp
    exact up _ _ _ _ nx r' rp q
  · rename_i ks ds es
    obtain ⟨a, h1, kvs, h2, ek, h3⟩ := rel.slot i _ es
    refine ⟨.ref a, h1, .inr ⟨a, _, rfl, h2, .inr ⟨_, rfl⟩, fun o => ?_⟩⟩
    have rp : Rep X.K (upd H a (.frz o (.dK kvs))) (.ref a) (.dct ks ds) := ek ▸ .dct (o := o) upd_same (h3.step (A := fun x => x = a) fun b w eb q => by
      by_cases hb : b = a
      · subst hb
        rw [h2] at eb; cases eb
        rcases q with q | q
        · exact q.elim
        · exact absurd rfl q
      · rw [upd_ne hb]; exact eb)
    obtain ⟨nx, r'⟩ := rel.frozen es h1 h2 rp
    exact up _ _ _ _ nx r' rp q
  · exact q.elim
/-! ### operators by values -/
abbrev Op2 := D → D → (D → Prop) → Prop
abbrev OpN := List D → (D → Prop) → Prop
/-- the end of an operation: what came is represented, all that stood stands -/
def Fin (K : PySem.W.Frag) (H : Hp) (Q : VK) (Q' : D → Prop) : Prop := ∀ z c H', Same H H' → Rep K H' z c → Q' c → Q z H'
def OpD (X : Cx) (f : Value → Value → Sem Value) (o : Op2) : Prop := ∃ r, OpR X f r ∧ ∀ (H : Hp) (x y : V) (d e : D) (Q : VK) (Q' : D → Prop), Rep X.K H x d → Rep X.K H y e → o d e Q' → Fin X.K H Q Q' → r x y H Q
def UnD (X : Cx) (f : Value → Sem Value) (o : D → (D → Prop) → Prop) : Prop := ∃ r, UnR X f r ∧ ∀ (H : Hp) (x : V) (d : D) (Q : VK) (Q' : D → Prop), Rep X.K H x d → o d Q' → Fin X.K H Q Q' → r x H Q
def CallD (X : Cx) (f : Value) (o : OpN) : Prop := ∃ r, CallR X f r ∧ ∀ (H : Hp) (xs : List V) (ds : List D) (Q : VK) (Q' : D → Prop), RepAll X.K H xs ds → o ds Q' → Fin X.K H Q Q' → r xs H Q
def MtD (X : Cx) (id : String) (o : D → OpN) : Prop := ∃ r, MtR X id r ∧ ∀ (H : Hp) (x : V) (d : D) (xs : List V) (ds : List D) (Q : VK) (Q' : D → Prop), Rep X.K H x d → RepAll X.K H xs ds → o d ds Q' → Fin X.K H Q Q' → r x xs H Q
def IxD (X : Cx) (o : Op2) : Prop := ∃ r, IxR X r ∧ ∀ (H : Hp) (x y : V) (d e : D) (Q : VK) (Q' : D → Prop), Rep X.K H x d → Rep X.K H y e → o d e Q' → Fin X.K H Q Q' → r x y H Q
def pOp (o : Op2) (ta tb : PTE) : PTE := fun S Q E => ta S (fun x S1 => tb S1 (fun y S2 => o x y fun z => Q z S2) E) E
def pUn (o : D → (D → Prop) → Prop) (ta : PTE) : PTE := fun S Q E => ta S (fun x S1 => o x fun z => Q z S1) E
theorem Up.fin {K : PySem.W.Frag} {σ : St} {S S1 : Sta} {H H1 : Hp} {Q : VK} {Q' : PQ} (u : Up K σ S H Q Q') (n : Nx σ S H σ S1 H1) (r : Rel K H1 σ S1) : Fin K H1 Q (fun z => Q' z S1) := fun z c H' s rp q => u z c H' S1 (n.trans (.same s)) (r.same s) rp q
theorem Rep.nx {K : PySem.W.Frag} {σ : St} {S S1 : Sta} {H H1 : Hp} {σ' : St} {v : V} {d : D} (n : Nx σ S H σ' S1 H1) (h : Rep K H v d) : Rep K H1 v d := h.step n.st
theorem RepAll.nx {K : PySem.W.Frag} {σ : St} {S S1 : Sta} {H H1 : Hp} {σ' : St} {v : List V} {d : List D} (n : Nx σ S H σ' S1 H1) (h : RepAll K H v d) : RepAll K H1 v d := h.step n.st
variable {a b : Expr} {ta tb : PTE} {pos : Pos} {o : Op2}
theorem two {W : WX} {r : R2} (hl : ∀ (H : Hp) (x y : V) (d e : D) (Q : VK) (Q' : D → Prop), Rep X.K H x d → Rep X.K H y e → o d e Q' → Fin X.K H Q Q' → r x y H Q) : ∀ σ H Q, lE X W (pOp o ta tb) σ H Q → tOp r (lE X W ta) (lE X W tb) σ H Q := by
  rintro σ H Q ⟨S, Q', E', rel, q, up, ux⟩
  refine ⟨S, _, E', rel, q, fun v d H1 S1 n1 r1 p1 q1 => ?_, ux⟩
  refine ⟨S1, _, E', r1, q1, fun w e H2 S2 n2 r2 p2 q2 => ?_, ux.thn n1⟩
  exact hl H2 v w d e Q _ (p1.nx n2) p2 q2 (up.fin (n1.trans n2) r2)
theorem pm_op {op : Operator} (ho : OpD X (binaryOp op) o) (ha : PM X a ta) (hb : PM X b tb) : PM X (.BinOp a op b pos) (pOp o ta tb) := fun W tk => by
  obtain ⟨r, hr, hl⟩ := ho
  exact weakE (pe_op hr (ha W tk) (hb W tk)) (two hl)
theorem pm_un {op : UnaryOp} {o : D → (D → Prop) → Prop} (ho : UnD X (unaryOp op) o) (ha : PM X a ta) : PM X (.UnaryOp op a pos) (pUn o ta) := fun W tk => by
  obtain ⟨r, hr, hl⟩ := ho
  refine weakE (pe_un hr (ha W tk)) ?_
  rintro σ H Q ⟨S, Q', E', rel, q, up, ux⟩
  exact ⟨S, _, E', rel, q, fun v d H1 S1 n1 r1 p1 q1 => hl H1 v d Q _ p1 q1 (up.fin n1 r1), ux⟩
/-- a comparison as a value -/
theorem pm_cmp {op : CmpOp} (ho : OpD X (compareOp op) o) (ha : PM X a ta) (hb : PM X b tb) (h1 : behindInMarks op b = false) : PM X (.Compare a [op] [b] pos) (pOp o ta tb) := fun W tk => by
  obtain ⟨r, hr, hl⟩ := ho
  exact weakE (pe_cmpR hr (ha W tk) (hb W tk) h1) (two hl)
/-- x[i] -/
theorem pm_ix (ho : IxD X o) (ha : PM X a ta) (hb : PM X b tb) (hpi : PlainIx b) : PM X (.Subscript a b pos) (pOp o ta tb) := fun W tk => by
  obtain ⟨r, hr, hl⟩ := ho
  exact weakE (pe_ix hr (ha W tk) (hb W tk) hpi) (two hl)
/-- x[lo:hi] -/
def POX (X : Cx) (lo : Option Expr) (t : Option PTE) : Prop := (lo = none ∧ t = none) ∨ ∃ e te, lo = some e ∧ t = some te ∧ PM X e te
def pPart : Option PTE → Sta → (Option Int → Sta → Prop) → PX → Prop
  | none => fun S Q _ => Q none S
  | some t => fun S Q E => t S (fun d S1 => ∃ i, d = .int i ∧ Q (some i) S1) E
def lO (X : Cx) (W : WX) (t : Option PTE) : TO := fun σ H Q => ∃ S Q' E', Rel X.K H σ S ∧ pPart t S Q' E' ∧ (∀ b H' S', Nx σ S H σ S' H' → Rel X.K H' σ S' → Q' b S' → Q b H') ∧ UpX X.K σ S H W E'
theorem po_of {lo : Option Expr} {t : Option PTE} {W : WX} (tk : Takes X W) (h : POX X lo t) : PO X lo (lO X W t) := by
  rcases h with ⟨rfl, rfl⟩ | ⟨e, te, rfl, rfl, he⟩
  · refine ⟨fun pins s σ H Q I q => po_none.run pins s σ H Q I ?_⟩
    obtain ⟨S, Q', E', rel, q, up, ux⟩ := q
    exact up _ _ _ .refl rel q
  · refine ⟨fun pins s σ H Q I q => (po_some (he W tk)).run pins s σ H Q I ?_⟩
    obtain ⟨S, Q', E', rel, q, up, ux⟩ := q
    refine ⟨S, _, E', rel, q, fun v d H1 S1 n1 r1 p1 q1 => ?_, ux⟩
    obtain ⟨i, rfl, q1⟩ := q1
    cases p1
    exact ⟨i, rfl, up _ _ _ n1 r1 q1⟩
def SlD (X : Cx) (o : D → Option Int → Option Int → (D → Prop) → Prop) : Prop := ∃ r, SlR X r ∧ ∀ (H : Hp) (x : V) (d : D) (lo hi : Option Int) (Q : VK) (Q' : D → Prop), Rep X.K H x d → o d lo hi Q' → Fin X.K H Q Q' → r x lo hi H Q
def pSl (o : D → Option Int → Option Int → (D → Prop) → Prop) (ta : PTE) (tl th : Option PTE) : PTE := fun S Q E => ta S (fun x S1 => pPart tl S1 (fun lo S2 => pPart th S2 (fun hi S3 => o x lo hi fun z => Q z S3) E) E) E
theorem pm_slice {o : D → Option Int → Option Int → (D → Prop) → Prop} {lo hi : Option Expr} {tl th : Option PTE} {p2 : Pos} (hr : SlD X o) (he : PM X a ta) (hl : POX X lo tl) (hu : POX X hi th) : PM X (.Subscript a (.Slice lo hi none p2) pos) (pSl o ta tl th) := fun W tk => by
  obtain ⟨r, hr, hf⟩ := hr
  refine weakE (pe_slice hr (he W tk) (po_of tk hl) (po_of tk hu)) ?_
  rintro σ H Q ⟨S, Q', E', rel, q, up, ux⟩
  refine ⟨S, _, E', rel, q, fun v d H1 S1 n1 r1 p1 q1 => ?_, ux⟩
  refine ⟨S1, _, E', r1, q1, fun l H2 S2 n2 r2 q2 => ?_, ux.thn n1⟩
  refine ⟨S2, _, E', r2, q2, fun u H3 S3 n3 r3 q3 => ?_, ux.thn (n1.trans n2)⟩
  exact hf H3 v d l u Q _ ((p1.nx n2).nx n3) q3 (up.fin ((n1.trans n2).trans n3) r3)
/-! ### argument lists, displays, calls of built-ins -/
def pNil : PTA := fun S Q _ => Q [] S
def pCons (t : PTE) (u : PTA) : PTA := fun S Q E => t S (fun x S1 => u S1 (fun xs S2 => Q (x :: xs) S2) E) E
variable {e : Expr} {es : List Expr} {te : PTE} {t : PTA}
theorem pma_nil : PMA X [] pNil := fun W _ => weakA pa_nil fun σ H Q => by
  rintro ⟨S, Q', E', rel, q, up, _⟩
  exact up _ _ _ _ .refl rel .nil q
theorem pma_cons (ha : PM X e te) (hr : PMA X es t) (hs : starEach (e :: es) X.env = (false, eval e X.env) :: starEach es X.env := by rfl) : PMA X (e :: es) (pCons te t) := fun W tk => weakA (pa_cons (ha W tk) (hr W tk) hs) fun σ H Q => by
  rintro ⟨S, Q', E', rel, q, up, ux⟩
  refine ⟨S, _, E', rel, q, fun v d H1 S1 n1 r1 p1 q1 => ?_, ux⟩
  refine ⟨S1, _, E', r1, q1, fun vs ds H2 S2 n2 r2 p2 q2 => ?_, ux.thn n1⟩
  exact up _ _ _ _ (n1.trans n2) r2 (.cons (p1.nx n2) p2) q2
def pTup (t : PTA) : PTE := fun S Q E => t S (fun ds S1 => ds.length ≤ sizeLine ∧ Q (.tup ds) S1) E
def pLst (t : PTA) : PTE := fun S Q E => t S (fun ds S1 => ds.length ≤ sizeLine ∧ Q (.lst ds) S1) E
theorem pm_tup {k : Nat} (h : PMA X es t) : PM X (.Tuple es k pos) (pTup t) := fun W tk => weakE (pe_tup (h W tk)) fun σ H Q => by
  rintro ⟨S, Q', E', rel, q, up, ux⟩
  refine ⟨S, _, E', rel, q, fun vs ds H1 S1 n1 r1 p1 q1 => ⟨by rw [p1.length]; exact q1.1, fun p hp => ?_⟩, ux⟩
  have s : Same H1 (upd H1 p (.tup vs)) := same_new hp
  exact up _ _ _ _ (n1.trans (.same s)) (r1.same s) (.tup (.of upd_same) (p1.step (A := fun _ => False) (Step.of_same s))) q1.2
theorem same_frz {H : Hp} {p : Addr} {u w : HO} (hp : H p = none) : Same H (upd (upd H p u) p w) := by rw [upd_upd]; exact same_new hp
theorem pm_lst (h : PMA X es t) : PM X (.List es pos) (pLst t) := fun W tk => weakE (pe_frz (pe_lst (h W tk))) fun σ H Q => by
  rintro ⟨S, Q', E', rel, q, up, ux⟩
  refine ⟨S, _, E', rel, q, fun vs ds H1 S1 n1 r1 p1 q1 => ⟨by rw [p1.length]; exact q1.1, fun p hp => ?_⟩, ux⟩
  refine .inr ⟨p, _, rfl, upd_same, .inl ⟨_, rfl⟩, fun o => ?_⟩
  have s : Same H1 (upd (upd H1 p (.lst vs)) p (.frz o (.lst vs))) := same_frz hp
  exact up _ _ _ _ (n1.trans (.same s)) (r1.same s) (.lst (.inl ⟨o, upd_same⟩) (p1.step (A := fun _ => False) (Step.of_same s))) q1.2
/-- a built-in called with values -/
def pCallB (o : OpN) (t : PTA) : PTE := fun S Q E => t S (fun ds S1 => o ds fun z => Q z S1) E
theorem callB {o : OpN} {W : WX} {r : List V → Hp → VK → Prop} (hl : ∀ (H : Hp) (xs : List V) (ds : List D) (Q : VK) (Q' : D → Prop), RepAll X.K H xs ds → o ds Q' → Fin X.K H Q Q' → r xs H Q) : ∀ σ H Q, lE X W (pCallB o t) σ H Q → tCB r (lA X W t) σ H Q := by
  rintro σ H Q ⟨S, Q', E', rel, q, up, ux⟩
  exact ⟨S, _, E', rel, q, fun v d H1 S1 n1 r1 p1 q1 => hl H1 v d Q _ p1 q1 (up.fin n1 r1), ux⟩
theorem pm_callB {o : OpN} {x id : String} {p : Pos} (hc : CallD X (.builtin id) o) (hg : Gl X x) (hm : X.mg x = none) (hv : bootBuiltins x = some (.builtin id)) (ha : PMA X (e :: es) t) (hn : (x : Str) ≠ "__name__" := by decide) (hdb : ((x : Str) == ("__debug__" : Str)) = false := by decide)
    (he : starEach (e :: es) X.env = (false, eval e X.env) :: starEach es X.env := by rfl) (hpl : (backTo pos (starEach es X.env)).any (·.1) = false := by rfl) : PM X (.Call (.Name x p) (e :: es) [] pos) (pCallB o t) := fun W tk => by
  obtain ⟨r, hr, hl⟩ := hc
  exact weakE (pe_callB hr hg hm hv (ha W tk) hn hdb he hpl) (callB hl)
theorem pm_callTy {o : OpN} {x T : String} {p : Pos} (hc : CallD X (.type T) o) (hg : Gl X x) (hm : X.mg x = none) (hv : bootBuiltins x = some (.type T)) (ha : PMA X (e :: es) t) (hn : (x : Str) ≠ "__name__" := by decide) (hdb : ((x : Str) == ("__debug__" : Str)) = false := by decide)
    (he : starEach (e :: es) X.env = (false, eval e X.env) :: starEach es X.env := by rfl) (hpl : (backTo pos (starEach es X.env)).any (·.1) = false := by rfl) : PM X (.Call (.Name x p) (e :: es) [] pos) (pCallB o t) := fun W tk => by
  obtain ⟨r, hr, hl⟩ := hc
  exact weakE (pe_callTy hr hg hm hv (ha W tk) hn hdb he hpl) (callB hl)
/-! ### tests -/
variable {tA tB : PTT} {rest : List Expr}
/-- the truth of data -/
def tru : D → Option Bool
  | .bl b => some b
  | .non => some false
  | .int i => some (i != 0)
  | .str x => if x.length ≤ sizeLine then some (x.length != 0) else none
  | .tup xs => some (!xs.isEmpty)
  | .lst xs => some (!xs.isEmpty)
  | _ => none
def pTest (t : PTE) : PTT := fun S Q E => t S (fun d S1 => ∃ b, d = .bl b ∧ Q b S1) E
theorem pmt_val (h : PM X e te) (he : ∀ whole, isTrue e X.env whole = (do let v ← whole; standAt e.pos; holding [v] (truthy v)) := by intro _; rfl) : PMT X e (pTest te) := fun W tk => weakT (pt_val (h W tk) he) fun σ H Q => by
  rintro ⟨S, Q', E', rel, q, up, ux⟩
  refine ⟨S, _, E', rel, q, fun v d H1 S1 n1 r1 p1 q1 => ?_, ux⟩
  obtain ⟨b, rfl, q1⟩ := q1
  cases p1
  exact ⟨b, rfl, up _ _ _ n1 r1 q1⟩
theorem pmt_cmp {op : CmpOp} (ho : OpD X (compareOp op) o) (ha : PM X a ta) (hb : PM X b tb) (h1 : behindInMarks op b = false) : PMT X (.Compare a [op] [b] pos) (pTest (pOp o ta tb)) := fun W tk => by
  obtain ⟨r, hr, hl⟩ := ho
  refine weakT (pt_cmpR hr (ha W tk) (hb W tk) h1) ?_
  rintro σ H Q ⟨S, Q', E', rel, q, up, ux⟩
  refine two (W := W) hl σ H _ ⟨S, _, E', rel, q, fun v d H1 S1 n1 r1 p1 q1 => ?_, ux⟩
  obtain ⟨b, rfl, q1⟩ := q1
  cases p1
  exact ⟨b, rfl, up _ _ _ n1 r1 q1⟩
def pNot (t : PTT) : PTT := fun S Q E => t S (fun b S1 => Q (!b) S1) E
theorem pmt_not (h : PMT X a tA) : PMT X (.UnaryOp .Not a pos) (pNot tA) := fun W tk => weakT (pt_not (h W tk)) fun σ H Q => by
  rintro ⟨S, Q', E', rel, q, up, ux⟩
  exact ⟨S, _, E', rel, q, fun b H1 S1 n1 r1 q1 => up _ _ _ n1 r1 q1, ux⟩
def pAnd (t u : PTT) : PTT := fun S Q E => t S (fun b S1 => if b = true then u S1 Q E else Q false S1) E
def pOr (t u : PTT) : PTT := fun S Q E => t S (fun b S1 => if b = true then Q true S1 else u S1 Q E) E
theorem pmw_and1 (h : PMT X a tA) : PMW X (.BoolOp .And [a] pos) tA := fun W tk => pw_and1 (h W tk)
theorem pmw_or1 (h : PMT X a tA) : PMW X (.BoolOp .Or [a] pos) tA := fun W tk => pw_or1 (h W tk)
theorem pmw_and (ha : PMT X a tA) (hb : PMW X (.BoolOp .And (b :: rest) pos) tB) : PMW X (.BoolOp .And (a :: b :: rest) pos) (pAnd tA tB) := fun W tk => weakW (pw_and (ha W tk) (hb W tk)) fun σ H Q => by
  rintro ⟨S, Q', E', rel, q, up, ux⟩
  refine ⟨S, _, E', rel, q, fun c H1 S1 n1 r1 q1 => ?_, ux⟩
  cases c with
  | true => exact ⟨S1, _, E', r1, q1, fun d H2 S2 n2 r2 q2 => up _ _ _ (n1.trans n2) r2 q2, ux.thn n1⟩
  | false => exact up _ _ _ n1 r1 q1
theorem pmw_or (ha : PMT X a tA) (hb : PMW X (.BoolOp .Or (b :: rest) pos) tB) : PMW X (.BoolOp .Or (a :: b :: rest) pos) (pOr tA tB) := fun W tk => weakW (pw_or (ha W tk) (hb W tk)) fun σ H Q => by
  rintro ⟨S, Q', E', rel, q, up, ux⟩
  refine ⟨S, _, E', rel, q, fun c H1 S1 n1 r1 q1 => ?_, ux⟩
  cases c with
  | true => exact up _ _ _ n1 r1 q1
  | false => exact ⟨S1, _, E', r1, q1, fun d H2 S2 n2 r2 q2 => up _ _ _ (n1.trans n2) r2 q2, ux.thn n1⟩
theorem pmt_w (h : PMW X a tA) : PMT X a tA := fun W tk => (h W tk).pt
/-- and, or, not as values -/
def pAndV (ta tb : PTE) : PTE := fun S Q E => ta S (fun x S1 => ∃ c, x = .bl c ∧ if c = true then tb S1 Q E else Q (.bl false) S1) E
def pOrV (ta tb : PTE) : PTE := fun S Q E => ta S (fun x S1 => ∃ c, x = .bl c ∧ if c = true then Q (.bl true) S1 else tb S1 Q E) E
def pNotV (ta : PTE) : PTE := fun S Q E => ta S (fun x S1 => ∃ c, x = .bl c ∧ Q (.bl (!c)) S1) E
theorem pm_one {op} {t : PTE} (h : PM X a t) : PM X (.BoolOp op [a] pos) t := fun W tk => pe_one (h W tk)
theorem pm_and (ha : PM X a ta) (hb : PM X (.BoolOp .And (b :: rest) pos) tb) : PM X (.BoolOp .And (a :: b :: rest) pos) (pAndV ta tb) := fun W tk => weakE (pe_and (ha W tk) (hb W tk)) fun σ H Q => by
  rintro ⟨S, Q', E', rel, q, up, ux⟩
  refine ⟨S, _, E', rel, q, fun v d H1 S1 n1 r1 p1 q1 => ?_, ux⟩
  obtain ⟨c, rfl, q1⟩ := q1
  cases p1
  refine ⟨c, rfl, ?_⟩
  cases c with
  | true => exact ⟨S1, _, E', r1, q1, fun v d H2 S2 n2 r2 p2 q2 => up _ _ _ _ (n1.trans n2) r2 p2 q2, ux.thn n1⟩
  | false => exact up _ _ _ _ n1 r1 (.bl _) q1
theorem pm_or (ha : PM X a ta) (hb : PM X (.BoolOp .Or (b :: rest) pos) tb) : PM X (.BoolOp .Or (a :: b :: rest) pos) (pOrV ta tb) := fun W tk => weakE (pe_or (ha W tk) (hb W tk)) fun σ H Q => by
  rintro ⟨S, Q', E', rel, q, up, ux⟩
  refine ⟨S, _, E', rel, q, fun v d H1 S1 n1 r1 p1 q1 => ?_, ux⟩
  obtain ⟨c, rfl, q1⟩ := q1
  cases p1
  refine ⟨c, rfl, ?_⟩
  cases c with
  | true => exact up _ _ _ _ n1 r1 (.bl _) q1
  | false => exact ⟨S1, _, E', r1, q1, fun v d H2 S2 n2 r2 p2 q2 => up _ _ _ _ (n1.trans n2) r2 p2 q2, ux.thn n1⟩
theorem pm_not (ha : PM X a ta) : PM X (.UnaryOp .Not a pos) (pNotV ta) := fun W tk => weakE (pe_not (ha W tk)) fun σ H Q => by
  rintro ⟨S, Q', E', rel, q, up, ux⟩
  refine ⟨S, _, E', rel, q, fun v d H1 S1 n1 r1 p1 q1 => ?_, ux⟩
  obtain ⟨c, rfl, q1⟩ := q1
  cases p1
  exact ⟨c, rfl, up _ _ _ _ n1 r1 (.bl _) q1⟩
def pIf (t : PTT) (ta tb : PTE) : PTE := fun S Q E => t S (fun b S1 => if b = true then ta S1 Q E else tb S1 Q E) E
theorem pm_ifExp {c : Expr} (hc : PMT X c tA) (ha : PM X a ta) (hb : PM X b tb) : PM X (.IfExp c a b pos) (pIf tA ta tb) := fun W tk => weakE (pe_ifExp (hc W tk) (ha W tk) (hb W tk)) fun σ H Q => by
  rintro ⟨S, Q', E', rel, q, up, ux⟩
  refine ⟨S, _, E', rel, q, fun c H1 S1 n1 r1 q1 => ?_, ux⟩
  cases c <;> exact ⟨S1, _, E', r1, q1, fun v d H2 S2 n2 r2 p2 q2 => up _ _ _ _ (n1.trans n2) r2 p2 q2, ux.thn n1⟩
end
end Pl
set_option Elab.async false
set_option linter.all false
set_option maxRecDepth 100000
set_option maxHeartbeats 4000000
/-! Pl, part 3: statements -/
namespace Pl
open PySem PySem.Spec L2
open PyProof.Rows (envOfC)
structure PEnds where
  nx : Sta → Prop
  rt : D → Sta → Prop
  bk : Sta → Prop := fun _ => False
  ct : Sta → Prop := fun _ => False
  ex : PX := fun _ _ => False
abbrev PTS := PEnds → Sta → Prop
def UpS (K : PySem.W.Frag) (σ : St) (S : Sta) (H : Hp) (P : St → Hp → Prop) (P' : Sta → Prop) : Prop := ∀ σ' H' S', Nx σ S H σ' S' H' → Rel K H' σ' S' → P' S' → P σ' H'
structure UpD (K : PySem.W.Frag) (σ : St) (S : Sta) (H : Hp) (W : WX) (D : Ends) (P : PEnds) : Prop where
  nx : UpS K σ S H D.nx P.nx
  rt : ∀ v d σ' H' S', Nx σ S H σ' S' H' → Rel K H' σ' S' → Rep K H' v d → P.rt d S' → D.rt v H'
  bk : UpS K σ S H D.bk P.bk
  ct : UpS K σ S H D.ct P.ct
  ex : ∀ x cls dd σ' H' S', Nx σ S H σ' S' H' → Rel K H' σ' S' → XR K H' x cls dd → P.ex x S' → W cls dd σ' H'
def lS (X : Cx) (W : WX) (t : PTS) : TS := fun D σ H => ∃ S P, Rel X.K H σ S ∧ t P S ∧ UpD X.K σ S H W D P
def PMS (X : Cx) (st : Stmt) (t : PTS) : Prop := ∀ W, Takes X W → L2.PS X st (lS X W t)
def PMSs (X : Cx) (st : List Stmt) (t : PTS) : Prop := ∀ W, Takes X W → PSs X st (lS X W t)
section
variable {K : PySem.W.Frag} {σ σ1 : St} {S S1 : Sta} {H H1 : Hp} {W : WX} {D : Ends} {P : PEnds}
theorem UpS.thn {R : St → Hp → Prop} {R' : Sta → Prop} (u : UpS K σ S H R R') (n : Nx σ S H σ1 S1 H1) : UpS K σ1 S1 H1 R R' := fun σ' H' S' n' r q => u σ' H' S' (n.trans n') r q
theorem UpD.thn (u : UpD K σ S H W D P) (n : Nx σ S H σ1 S1 H1) : UpD K σ1 S1 H1 W D P :=
  ⟨u.nx.thn n, fun v d σ' H' S' n' r p q => u.rt v d σ' H' S' (n.trans n') r p q, u.bk.thn n, u.ct.thn n, fun x c d σ' H' S' n' r p q => u.ex x c d σ' H' S' (n.trans n') r p q⟩
theorem UpD.ux (u : UpD K σ S H W D P) : UpX K σ S H W P.ex := fun x c d H' S' n r p q => u.ex x c d σ H' S' n r p q
end
section
variable {X : Cx} {st : Stmt} {rest : List Stmt} {t u : PTS} {e : Expr} {te : PTE} {pos : Pos}
def pNext : PTS := fun P S => P.nx S
def pSeq (t u : PTS) : PTS := fun P S => t { P with nx := u P } S
theorem pmss_nil : PMSs X [] pNext := fun W tk => weakSs pss_nil fun D σ H => by
  rintro ⟨S, P, rel, q, up⟩
  exact up.nx _ _ _ .refl rel q
theorem pmss_cons (h1 : PMS X st t) (h2 : PMSs X rest u) : PMSs X (st :: rest) (pSeq t u) := fun W tk => weakSs (pss_cons (h1 W tk) (h2 W tk)) fun D σ H => by
  rintro ⟨S, P, rel, q, up⟩
  refine ⟨S, _, rel, q, ⟨fun σ' H' S' n r q1 => ⟨S', P, r, q1, up.thn n⟩, up.rt, up.bk, up.ct, up.ex⟩⟩
theorem pmss_one (h1 : PMS X st t) : PMSs X [st] t := fun W tk => pss_one (h1 W tk)
def pBreak : PTS := fun P S => P.bk S
def pCont : PTS := fun P S => P.ct S
theorem pms_pass : PMS X (.Pass pos) pNext := fun W tk => weakS ps_pass fun D σ H => by
  rintro ⟨S, P, rel, q, up⟩
  exact up.nx _ _ _ .refl rel q
theorem pms_break : PMS X (.Break pos) pBreak := fun W tk => weakS ps_break fun D σ H => by
  rintro ⟨S, P, rel, q, up⟩
  exact up.bk _ _ _ .refl rel q
theorem pms_continue : PMS X (.Continue pos) pCont := fun W tk => weakS ps_continue fun D σ H => by
  rintro ⟨S, P, rel, q, up⟩
  exact up.ct _ _ _ .refl rel q
def pDrop (te : PTE) : PTS := fun P S => te S (fun _ S1 => P.nx S1) P.ex
theorem pms_expr (he : PM X e te) (hs : swapsWith e none pos.line X.env = pure false := by rfl) : PMS X (.Expr e pos) (pDrop te) := fun W tk => weakS (ps_expr (he W tk) hs) fun D σ H => by
  rintro ⟨S, P, rel, q, up⟩
  exact ⟨S, _, _, rel, q, fun v d H1 S1 n1 r1 p1 q1 => up.nx _ _ _ n1 r1 q1, up.ux⟩
def pRet (te : PTE) : PTS := fun P S => te S P.rt P.ex
theorem pms_ret (he : PM X e te) : PMS X (.Return (some e) pos) (pRet te) := fun W tk => weakS (ps_ret (he W tk)) fun D σ H => by
  rintro ⟨S, P, rel, q, up⟩
  exact ⟨S, _, _, rel, q, fun v d H1 S1 n1 r1 p1 q1 => up.rt v d σ H1 S1 n1 r1 p1 q1, up.ux⟩
def pRetN : PTS := fun P S => P.rt .non S
theorem pms_retN : PMS X (.Return none pos) pRetN := fun W tk => weakS ps_retN fun D σ H => by
  rintro ⟨S, P, rel, q, up⟩
  exact up.rt .non .non σ H S .refl rel .non q
def pIfS (c : PTT) (t u : PTS) : PTS := fun P S => c S (fun b S1 => if b = true then t P S1 else u P S1) P.ex
theorem pms_if {c : Expr} {a b : List Stmt} {tc : PTT} (hc : PMT X c tc) (ha : PMSs X a t) (hb : PMSs X b u) : PMS X (.If c a b pos) (pIfS tc t u) := fun W tk => weakS (ps_if (hc W tk) (ha W tk) (hb W tk)) fun D σ H => by
  rintro ⟨S, P, rel, q, up⟩
  refine ⟨S, _, _, rel, q, fun d H1 S1 n1 r1 q1 => ?_, up.ux⟩
  cases d <;> exact ⟨S1, P, r1, q1, up.thn n1⟩
/-! ### storing -/
/-- a slot gets a value -/
theorem Rel.put {K : PySem.W.Frag} {H : Hp} {σ : St} {S : Sta} {i : Nat} {v : V} {d : D} (r : Rel K H σ S) (h : Rep K H v d) :
    Nx σ S H (σ.set i (some v)) ⟨S.ρ.set i (.val d), S.W⟩ H ∧ Rel K H (σ.set i (some v)) ⟨S.ρ.set i (.val d), S.W⟩ := by
  have back : ∀ j b, OwnS (σ.set i (some v)) (S.ρ.set i (.val d)) j b → j ≠ i ∧ OwnS σ S.ρ j b := fun j b h => by
    obtain ⟨⟨o', h1⟩, h2⟩ := h
    by_cases hj : j = i
    · subst hj
      by_cases hl : j < S.ρ.length
      · rw [List.getElem?_set_self hl] at h1; cases h1
      · rw [List.getElem?_eq_none (by simpa using hl)] at h1; cases h1
    · rw [List.getElem?_set_ne (Ne.symm hj)] at h1 h2
      exact ⟨hj, ⟨o', h1⟩, h2⟩
  refine ⟨⟨Step.refl, fun _ h => h, fun x h => .inl ?_⟩, ⟨by simpa using r.len, fun j s es => ?_, fun j k b h1 h2 => r.inj j k b (back _ _ h1).2 (back _ _ h2).2, r.wor, fun j b h => r.dis j b (back _ _ h).2⟩⟩
  · rcases h with ⟨j, h⟩ | h
    · exact .inl ⟨j, (back j x h).2⟩
    · exact .inr h
  · have es' : (S.ρ.set i (.val d))[j]? = some s := es
    by_cases hj : j = i
    · subst hj
      by_cases hl : j < S.ρ.length
      · rw [List.getElem?_set_self hl] at es'; cases es'
        exact ⟨v, List.getElem?_set_self (by rw [r.len]; exact hl), h⟩
      · rw [List.getElem?_eq_none (by simpa using hl)] at es'; cases es'
    · rw [List.getElem?_set_ne (Ne.symm hj)] at es'
      have q := r.slot j s es'
      have e2 : (σ.set i (some v))[j]? = σ[j]? := List.getElem?_set_ne (Ne.symm hj)
      rw [e2]; exact q
/-- a slot gets a new own object -/
theorem Rel.putOwn {K : PySem.W.Frag} {H : Hp} {σ : St} {S : Sta} {i : Nat} {a : Addr} {o : Own} (r : Rel K H σ S) (h : OwnAt K H a o) (n : ¬ Oa σ S a) :
    Rel K H (σ.set i (some (.ref a))) ⟨S.ρ.set i (.own o), S.W⟩ ∧ ∀ x, Oa (σ.set i (some (.ref a))) ⟨S.ρ.set i (.own o), S.W⟩ x → Oa σ S x ∨ x = a := by
  have back : ∀ j b, OwnS (σ.set i (some (.ref a))) (S.ρ.set i (.own o)) j b → (j = i ∧ b = a) ∨ (j ≠ i ∧ OwnS σ S.ρ j b) := fun j b h => by
    obtain ⟨⟨o', h1⟩, h2⟩ := h
    by_cases hj : j = i
    · subst hj
      by_cases hl : j < σ.length
      · rw [List.getElem?_set_self hl] at h2; cases h2; exact .inl ⟨rfl, rfl⟩
      · rw [List.getElem?_eq_none (by simpa using hl)] at h2; cases h2
    · rw [List.getElem?_set_ne (Ne.symm hj)] at h1 h2
      exact .inr ⟨hj, ⟨o', h1⟩, h2⟩
  refine ⟨⟨by simpa using r.len, fun j s es => ?_, fun j k b h1 h2 => ?_, r.wor, fun j b h => ?_⟩, fun x h => ?_⟩
  · have es' : (S.ρ.set i (.own o))[j]? = some s := es
    by_cases hj : j = i
    · subst hj
      by_cases hl : j < S.ρ.length
      · rw [List.getElem?_set_self hl] at es'; cases es'
        exact ⟨a, List.getElem?_set_self (by rw [r.len]; exact hl), h⟩
      · rw [List.getElem?_eq_none (by simpa using hl)] at es'; cases es'
    · rw [List.getElem?_set_ne (Ne.symm hj)] at es'
      have q := r.slot j s es'
      have e2 : (σ.set i (some (.ref a)))[j]? = σ[j]? := List.getElem?_set_ne (Ne.symm hj)
      rw [e2]; exact q
  · rcases back _ _ h1 with ⟨e1, e2⟩ | ⟨n1, g1⟩
    · rcases back _ _ h2 with ⟨e3, _⟩ | ⟨n2, g2⟩
      · rw [e1, e3]
      · subst e2; exact absurd (.inl ⟨k, g2⟩) n
    · rcases back _ _ h2 with ⟨e3, e4⟩ | ⟨n2, g2⟩
      · subst e4; exact absurd (.inl ⟨j, g1⟩) n
      · exact r.inj j k b g1 g2
  · rcases back _ _ h with ⟨rfl, rfl⟩ | ⟨_, h⟩
    · cases q : S.W b with
      | none => rfl
      | some o' => exact absurd (.inr (by rw [q]; exact fun z => nomatch z)) n
    · exact r.dis j b h
  · rcases h with ⟨j, h⟩ | h
    · rcases back _ _ h with ⟨_, rfl⟩ | ⟨_, h⟩
      · exact .inr rfl
      · exact .inl (.inl ⟨j, h⟩)
    · exact .inl (.inr h)
/-- a target takes a value: names, tuples of names; vs: the slots that it may store -/
abbrev PTG := D → Sta → (Sta → Prop) → Prop
abbrev PTGs := List D → Sta → (Sta → Prop) → Prop
def UpG (vs : List Nat) (K : PySem.W.Frag) (σ : St) (S : Sta) (H : Hp) (P : St → Hp → Prop) (P' : Sta → Prop) : Prop := ∀ σ' H' S', wipe σ' vs = wipe σ vs → Nx σ S H σ' S' H' → Rel K H' σ' S' → P' S' → P σ' H'
def lG (X : Cx) (vs : List Nat) (t : PTG) : TG := fun v σ H Q => ∃ d S Q', Rel X.K H σ S ∧ Rep X.K H v d ∧ t d S Q' ∧ UpG vs X.K σ S H Q Q'
def lGs (X : Cx) (vs : List Nat) (t : PTGs) : TGs := fun xs σ H Q => ∃ ds S Q', Rel X.K H σ S ∧ RepAll X.K H xs ds ∧ t ds S Q' ∧ UpG vs X.K σ S H Q Q'
def PMG (X : Cx) (vs : List Nat) (e : Expr) (t : PTG) : Prop := PG X e (lG X vs t)
def PMGs (X : Cx) (vs : List Nat) (e : List Expr) (t : PTGs) : Prop := PGs X e (lGs X vs t)
theorem weakG {X : Cx} {e : Expr} {t t' : TG} (h : PG X e t) (w : ∀ v σ H Q, t' v σ H Q → t v σ H Q) : PG X e t' := ⟨fun pins s σ H v u Q I r q => h.run pins s σ H v u Q I r (w _ _ _ _ q)⟩
theorem weakGs {X : Cx} {e : List Expr} {t t' : TGs} (h : PGs X e t) (w : ∀ v σ H Q, t' v σ H Q → t v σ H Q) : PGs X e t' := ⟨fun pins s σ H v u Q I r q => h.run pins s σ H v u Q I r (w _ _ _ _ q)⟩
theorem wipe_get (σ : St) : ∀ (vs : List Nat) (j : Nat), (wipe σ vs)[j]? = if j ∈ vs then σ[j]?.map (fun _ => none) else σ[j]?
  | [], j => by simp [wipe]
  | v :: vs, j => by
    unfold wipe
    by_cases hj : v = j
    · subst hj
      by_cases hl : v < σ.length
      · rw [List.getElem?_set_self (by rw [wipe_length]; exact hl), if_pos (by simp), List.getElem?_eq_getElem hl]; rfl
      · rw [List.getElem?_eq_none (by rw [List.length_set, wipe_length]; omega), if_pos (by simp), List.getElem?_eq_none (by omega)]; rfl
    · rw [List.getElem?_set_ne hj, wipe_get σ vs j]
      have e : (j ∈ v :: vs) ↔ j ∈ vs := by simp [List.mem_cons, Ne.symm hj]
      by_cases hm : j ∈ vs
      · rw [if_pos hm, if_pos (e.mpr hm)]
      · rw [if_neg hm, if_neg (fun z => hm (e.mp z))]
theorem wipe_set {σ : St} {vs : List Nat} {i : Nat} {x : Option V} (hi : i ∈ vs) : wipe (σ.set i x) vs = wipe σ vs := List.ext_getElem? fun j => by
  rw [wipe_get, wipe_get]
  by_cases hj : j ∈ vs
  · rw [if_pos hj, if_pos hj]
    by_cases e : i = j
    · subst e
      by_cases hl : i < σ.length
      · rw [List.getElem?_set_self hl, List.getElem?_eq_getElem hl]; rfl
      · rw [List.getElem?_eq_none (by simpa using hl), List.getElem?_eq_none (by omega)]
    · rw [List.getElem?_set_ne e]
  · rw [if_neg hj, if_neg hj, List.getElem?_set_ne (fun (z : i = j) => hj (z ▸ hi))]
def pgName (i : Nat) : PTG := fun d S Q => Q ⟨S.ρ.set i (.val d), S.W⟩
theorem pmg_of {vs : List Nat} {i : Nat} (h : PG X e (gName i)) (hi : i ∈ vs := by decide) : PMG X vs e (pgName i) := weakG h fun v σ H Q => by
  rintro ⟨d, S, Q', rel, rp, q, up⟩
  obtain ⟨nx, r⟩ := rel.put (i := i) rp
  exact up _ _ _ (wipe_set hi) nx r q
def pgNil : PTGs := fun ds S Q => ds = [] ∧ Q S
def pgCons (t : PTG) (u : PTGs) : PTGs := fun ds S Q => ∃ d r, ds = d :: r ∧ t d S fun S1 => u r S1 Q
theorem pmgs_nil {vs : List Nat} : PMGs X vs [] pgNil := weakGs pgs_nil fun xs σ H Q => by
  rintro ⟨ds, S, Q', rel, rp, ⟨rfl, q⟩, up⟩
  cases rp
  exact ⟨rfl, up _ _ _ rfl .refl rel q⟩
theorem pmgs_cons {vs : List Nat} {es : List Expr} {t : PTG} {u : PTGs} (h1 : PMG X vs e t) (h2 : PMGs X vs es u) (hs : (assignEach (e :: es) X.env).map (·.2) = assign e X.env :: (assignEach es X.env).map (·.2) := by rfl) : PMGs X vs (e :: es) (pgCons t u) := weakGs (pgs_cons h1 h2 hs) fun xs σ H Q => by
  rintro ⟨ds, S, Q', rel, rp, ⟨d, r, rfl, q⟩, up⟩
  cases rp with
  | cons p pr =>
    exact ⟨_, _, rfl, d, S, _, rel, p, q, fun σ1 H1 S1 w1 n1 r1 q1 => ⟨r, S1, Q', r1, pr.nx n1, q1, fun σ' H' S' w n' r' q' => up σ' H' S' (w.trans w1) (n1.trans n') r' q'⟩⟩
/-- (a, b) = a tuple -/
def pgTup (n : Nat) (t : PTGs) : PTG := fun d S Q => ∃ ds, d = .tup ds ∧ ds.length = n ∧ t ds S Q
theorem pmg_tup {vs : List Nat} {es : List Expr} {k : Nat} {t : PTGs} {n : Nat} (hc : X.calm = true) (h : PMGs X vs es t) (hn : (assignEach es X.env).length = n := by rfl) (hst : (assignEach es X.env).findIdx? (·.1) = none := by rfl) : PMG X vs (.Tuple es k pos) (pgTup n t) :=
  weakG (pg_tup hc h hn hst) fun v σ H Q => by
    rintro ⟨d, S, Q', rel, rp, ⟨ds, rfl, hl, q⟩, up⟩
    cases rp with
    | tup hq ha => exact ⟨_, _, rfl, hq, by rw [ha.length]; exact hl, ds, S, Q', rel, ha, q, up⟩
def pAsg (te : PTE) (g : PTG) : PTS := fun P S => te S (fun d S1 => g d S1 P.nx) P.ex
theorem asg {vs : List Nat} {W : WX} {g : PTG} : ∀ D σ H, lS X W (pAsg te g) D σ H → tAsg (lE X W te) (lG X vs g) D σ H := by
  rintro D σ H ⟨S, P, rel, q, up⟩
  exact ⟨S, _, _, rel, q, fun v d H1 S1 n1 r1 p1 q1 => ⟨d, S1, _, r1, p1, q1, fun σ' H' S' _ n' r' q' => up.nx σ' H' S' (n1.trans n') r' q'⟩, up.ux⟩
theorem pms_asg {vs : List Nat} {tg : Expr} {g : PTG} (he : PM X e te) (hg : PMG X vs tg g) (hs : swapsWithSole [tg] e pos.line X.env = pure false := by rfl) (hw : swappedStores [tg] e X.env = pure none := by rfl)
    (h1 : (assignEach [tg] X.env).map (·.2) = [assign tg X.env] := by rfl) : PMS X (.Assign [tg] e pos) (pAsg te g) := fun W tk => weakS (ps_asg (he W tk) hg hs hw h1) asg
def pSet (i : Nat) (te : PTE) : PTS := fun P S => te S (fun d S1 => P.nx ⟨S1.ρ.set i (.val d), S1.W⟩) P.ex
/-- x = e, whatever rule of the layer does it -/
theorem pms_set {i : Nat} {st : Stmt} (h : ∀ W, Takes X W → L2.PS X st (tAsg (lE X W te) (gName i))) : PMS X st (pSet i te) := fun W tk => weakS (h W tk) fun D σ H => by
  rintro ⟨S, P, rel, q, up⟩
  refine ⟨S, _, _, rel, q, fun v d H1 S1 n1 r1 p1 q1 => ?_, up.ux⟩
  obtain ⟨nx, r⟩ := r1.put (i := i) p1
  exact up.nx _ _ _ (n1.trans nx) r q1
/-- a, b = x, y -/
def pPar (i j : Nat) (t : PTA) : PTS := fun P S => t S (fun ds S1 => ∃ x y, ds = [x, y] ∧ P.nx ⟨(S1.ρ.set i (.val x)).set j (.val y), S1.W⟩) P.ex
theorem pms_par {i j : Nat} {t : PTA} {st : Stmt} (h : ∀ W, Takes X W → L2.PS X st (tPar i j (lA X W t))) : PMS X st (pPar i j t) := fun W tk => weakS (h W tk) fun D σ H => by
  rintro ⟨S, P, rel, q, up⟩
  refine ⟨S, _, _, rel, q, fun vs ds H1 S1 n1 r1 p1 q1 => ?_, up.ux⟩
  obtain ⟨x, y, rfl, q1⟩ := q1
  cases p1 with
  | cons p p' =>
    cases p' with
    | cons p' p'' =>
      cases p''
      obtain ⟨na, ra⟩ := r1.put (i := i) p
      obtain ⟨nb, rb⟩ := ra.put (i := j) p'
      exact ⟨_, _, rfl, up.nx _ _ _ ((n1.trans na).trans nb) rb q1⟩
/-! ### raise -/
def pRaise (x : Exn) : PTS := fun P S => P.ex x S
theorem pms_raise {cls : Value} (h : ∀ W, Takes X W → L2.PS X st (fun _ σ H => W cls none σ H)) : PMS X st (pRaise ⟨cls, none⟩) := fun W tk => weakS (h W tk) fun D σ H => by
  rintro ⟨S, P, rel, q, up⟩
  exact up.ex ⟨cls, none⟩ cls none σ H S .refl rel ⟨rfl, rfl⟩ q
end
/-! ### defs -/
/-- what a def promises, over data: the arguments, the shared own objects; what comes back -/
abbrev PFn := List D → (Addr → Option Own) → (D → (Addr → Option Own) → Prop) → (Exn → (Addr → Option Own) → Prop) → Prop
structure NxW (W : Addr → Option Own) (H : Hp) (W' : Addr → Option Own) (H' : Hp) : Prop where
  st : Step (fun a => W a ≠ none) H H'
  kn : ∀ b, H' b = none → H b = none
  oa : ∀ a, W' a ≠ none → W a ≠ none ∨ H a = none
def spP (K : PySem.W.Frag) (n : Nat) (φ : PFn) : Sp := fun vs H Q E => ∃ ds Wo Q' E', vs.length = n ∧ RepAll K H vs ds ∧ RelW K H Wo ∧ φ ds Wo Q' E' ∧
  (∀ v d H' W', NxW Wo H W' H' → RelW K H' W' → Rep K H' v d → Q' d W' → Q v H') ∧ (∀ x cls dd H' W', NxW Wo H W' H' → RelW K H' W' → XR K H' x cls dd → E' x W' → E cls dd H')
/-- the slots at a def's entry -/
def start0 (n : Nat) (ds : List D) : List Slot := ds.map .val ++ List.replicate (n - ds.length) .emp
theorem start_rel {K : PySem.W.Frag} {H : Hp} {N : List Str} {vs : List V} {ds : List D} {Wo : Addr → Option Own} (r : RepAll K H vs ds) (w : RelW K H Wo) :
    Rel K H (start N vs) ⟨start0 N.length ds, Wo⟩ ∧ ∀ a, Oa (start N vs) ⟨start0 N.length ds, Wo⟩ a → Wo a ≠ none := by
  have hl := r.length
  have no : ∀ (i : Nat) o, (start0 N.length ds)[i]? ≠ some (.own o) := fun i o e => by
    unfold start0 at e
    rcases List.mem_append.mp (List.mem_of_getElem? e) with h | h
    · obtain ⟨d, _, z⟩ := List.mem_map.mp h; cases z
    · have := List.eq_of_mem_replicate h; cases this
  refine ⟨⟨?_, fun i s e => ?_, fun i j a h => absurd h.1.choose_spec (no i _), w, fun i a h => absurd h.1.choose_spec (no i _)⟩, fun a h => ?_⟩
  · simp [L2.start, start0, hl]
  · have e' : (start0 N.length ds)[i]? = some s := e
    unfold start0 at e'
    by_cases hi : i < ds.length
    · rw [List.getElem?_append_left (by simpa using hi), List.getElem?_map, List.getElem?_eq_getElem hi] at e'
      cases e'
      obtain ⟨v, h1, h2⟩ := r.get (List.getElem?_eq_getElem hi)
      refine ⟨v, ?_, h2⟩
      unfold L2.start
      rw [List.getElem?_append_left (by rw [List.length_map, hl]; exact hi), List.getElem?_map, h1]
      rfl
    · rw [List.getElem?_append_right (by simpa using hi)] at e'
      have := List.eq_of_mem_replicate (List.mem_of_getElem? e')
      subst this
      trivial
  · rcases h with ⟨i, h⟩ | h
    · exact absurd h.1.choose_spec (no i _)
    · exact h
section
variable {P : Program} {w : World} {K : PySem.W.Frag} {mg : Str → Option Value} {base : Heap}
/-- THE RULE for a def: its body as a derivation, and what its reading says of data -/
theorem ok_of {x qual : Str} {st : Stmt} {f : Addr} {fd : FuncData} {N ps : List Str} {k : Nat} {φ : PFn} (F : Fun K x qual st f fd) (S : FnScope N ps (defScope st))
    (hbody : ∀ (cdv : Value) (A : Around) (outer : List Env) (s : Shared) (H : Hp) (E : XK), Room k (A.deeper (envOfC qual (defScope st) s.heap.objs.size f cdv)) →
      ∃ t, PMSs (cxOf (L2.CX P w) P w K mg base N qual (defScope st) f cdv A outer s H E) (defBody st) t ∧
        ∀ ds Wo Q E', ds.length = ps.length → φ ds Wo Q E' → t { nx := fun S => Q .non S.W, rt := fun d S => Q d S.W, ex := fun x S => E' x S.W } ⟨start0 N.length ds, Wo⟩) :
    FnOk P w K mg base (L2.CX P w) (k + 1) f fd ps (spP K ps.length φ) := by
  refine F.okX S (fun vs H Q E h => ?_) (fun cdv A outer s H vs Q E hr h => ?_)
  · obtain ⟨_, _, _, _, h, _⟩ := h; exact h
  obtain ⟨ds, Wo, Q', E', hl, rep, rw_, hφ, up, ux⟩ := h
  obtain ⟨t, ht, hq⟩ := hbody cdv A outer s H E hr
  have q := hq ds Wo Q' E' (by rw [← rep.length]; exact hl) hφ
  obtain ⟨rel, oa⟩ := start_rel (N := N) rep rw_
  have nxw : ∀ {σ' H' S'}, Nx (start N vs) ⟨start0 N.length ds, Wo⟩ H σ' S' H' → NxW Wo H S'.W H' := fun {σ' H' S'} n =>
    ⟨fun b o e q => n.st b o e (q.imp id fun z y => z (oa b y)), n.kn, fun a h => (n.oa a (.inr h)).imp (oa a) id⟩
  refine ⟨_, ht (fun cls d _ H => E cls d H) (takes_of rfl rfl rfl rfl), ⟨⟨start0 N.length ds, Wo⟩, _, rel, q, ⟨fun σ' H' S' n r q1 => up .non .non H' S'.W (nxw n) r.wor .non q1, fun v d σ' H' S' n r p q1 => up v d H' S'.W (nxw n) r.wor p q1, fun _ _ _ _ _ z => z.elim, fun _ _ _ _ _ z => z.elim,
    fun x c d σ' H' S' n r p q1 => ux x c d H' S'.W (nxw n) r.wor p q1⟩⟩⟩
/-- a promise that asks more, or promises less -/
theorem FnOk.wk {CX : CXT} {k n : Nat} {f : Addr} {fd : FuncData} {ps : List Str} {φ ψ : PFn} (F : FnOk P w K mg base CX k f fd ps (spP K n φ)) (h : ∀ ds Wo Q E, ψ ds Wo Q E → φ ds Wo Q E) : FnOk P w K mg base CX k f fd ps (spP K n ψ) :=
  F.imp fun vs H Q E ⟨ds, Wo, Q', E', h1, h2, h3, h4, h5, h6⟩ => ⟨ds, Wo, Q', E', h1, h2, h3, h _ _ _ _ h4, h5, h6⟩
end
/-! ### calls of defs -/
section
variable {X : Cx} {k n : Nat} {f : Addr} {fd : FuncData} {ps : List Str} {φ : PFn} {x : Str} {p pos : Pos} {e : Expr} {es : List Expr} {t : PTA}
/-- f(e, ..), all arguments values -/
def pCall (n : Nat) (φ : PFn) (t : PTA) : PTE := fun S Q E => t S (fun ds S1 => ds.length = n ∧ φ ds S1.W (fun d W' => Q d ⟨S1.ρ, W'⟩) (fun x W' => E x ⟨S1.ρ, W'⟩)) E
/-- back from a call: our slots stand, the shared objects are as the callee left them -/
theorem Rel.after {K : PySem.W.Frag} {σ : St} {S : Sta} {H H' : Hp} {W' : Addr → Option Own} (r : Rel K H σ S) (n : NxW S.W H W' H') (w : RelW K H' W') : Nx σ S H σ ⟨S.ρ, W'⟩ H' ∧ Rel K H' σ ⟨S.ρ, W'⟩ := by
  have nw : ∀ i a, OwnS σ S.ρ i a → ¬ (S.W a ≠ none) := fun i a h z => z (r.dis i a h)
  have tr : ∀ i a, OwnS σ S.ρ i a → H a ≠ none := fun i a h z => by
    obtain ⟨u, e, _⟩ := r.known (.inl ⟨i, h⟩)
    rw [z] at e; cases e
  refine ⟨⟨n.st.mono fun a h => .inr h, n.kn, fun a h => ?_⟩, ⟨r.len, fun i s e => ?_, r.inj, w, fun i a h => ?_⟩⟩
  · rcases h with ⟨i, h⟩ | h
    · exact .inl (.inl ⟨i, h⟩)
    · exact (n.oa a h).imp (fun z => .inr z) id
  · have q := r.slot i s e
    cases s with
    | emp => trivial
    | val d => obtain ⟨v, h1, h2⟩ := q; exact ⟨v, h1, h2.step n.st⟩
    | own o => obtain ⟨a, h1, h2⟩ := q; exact ⟨a, h1, h2.step n.st (nw i a ⟨⟨o, e⟩, h1⟩)⟩
  · show W' a = none
    cases q : W' a with
    | none => rfl
    | some o =>
      rcases n.oa a (by rw [q]; exact fun z => nomatch z) with z | z
      · exact absurd z (nw i a h)
      · exact absurd z (tr i a h)
theorem pm_call (F : FnOk X.prog X.w X.K X.mg X.base (L2.CX X.prog X.w) k f fd ps (spP X.K n φ)) (hr : Room k X.A) (hg : Gl X x) (hm : X.mg x = some (.ref f)) (hk : PySem.W.keepIn X.K (.ref f) = true) (hb : Binds X.K fd ps [])
    (ha : PMA X (e :: es) t) (hdb : (x == ("__debug__" : Str)) = false := by decide) (he : starEach (e :: es) X.env = (false, eval e X.env) :: starEach es X.env := by rfl) (hpl : (backTo pos (starEach es X.env)).any (·.1) = false := by rfl) :
    PM X (.Call (.Name x p) (e :: es) [] pos) (pCall n φ t) := fun W tk => weakE (pe_callS (E := WE W) F hr hg hm hk hb (fun σ => passAt tk σ) (ha W tk) hdb he hpl) fun σ H Q => by
  rintro ⟨S, Q', E', rel, q, up, ux⟩
  refine ⟨S, _, E', rel, q, fun vs ds H1 S1 n1 r1 p1 q1 => ?_, ux⟩
  refine ⟨ds, S1.W, _, _, by rw [p1.length]; exact q1.1, p1, r1.wor, q1.2, fun v d H' W' nw rw' rp q2 => ?_, fun y c dd H' W' nw rw' xr q2 => ?_⟩
  · obtain ⟨nx, r⟩ := r1.after nw rw'
    exact up v d H' _ (n1.trans nx) r rp q2
  · obtain ⟨nx, r⟩ := r1.after nw rw'
    exact ux y c dd H' _ (n1.trans nx) r xr q2
end
end Pl
set_option Elab.async false
set_option linter.all false
set_option maxRecDepth 100000
set_option maxHeartbeats 4000000
/-! Pl, part 4: loops, comprehensions -/
namespace Pl
open PySem PySem.Spec L2
open PyProof.Rows (envOfC)
/-- what is walked: the items as data -/
abbrev PTI := Sta → (List D → Sta → Prop) → PX → Prop
def WalksD (K : PySem.W.Frag) (J : It) (H : Hp) (ds : List D) : Prop := ∃ C : Hp → Prop, C H ∧ (∀ (A : Addr → Prop) H H', Step A H H' → C H → C H') ∧
  ∀ i H, C H → (ds.length ≤ i → J.stop i H) ∧ ∀ d, ds[i]? = some d → J.go i H ∧ ∀ x H', J.yld i H x H' → Same H H' ∧ Rep K H' x d
def lI (X : Cx) (W : WX) (t : PTI) : TI := fun σ H R => ∃ S Q' E', Rel X.K H σ S ∧ t S Q' E' ∧ (∀ J ds H' S', Nx σ S H σ S' H' → Rel X.K H' σ S' → WalksD X.K J H' ds → Q' ds S' → R J H') ∧ UpX X.K σ S H W E'
def PMI (X : Cx) (tg iter : Expr) (t : PTI) : Prop := ∀ W, Takes X W → PI X tg iter (lI X W t)
theorem weakI {X : Cx} {tg iter : Expr} {t t' : TI} (h : PI X tg iter t) (w : ∀ σ H R, t' σ H R → t σ H R) : PI X tg iter t' := ⟨fun pins s σ H R I q => h.run pins s σ H R I (w _ _ _ q)⟩
section
variable {X : Cx} {tg iter : Expr} {e : Expr} {te : PTE} {pos : Pos}
/-- a list or a tuple -/
def iSeq (K : PySem.W.Frag) (tl : TE) : TI := fun σ H R => tl σ H fun x H1 => ∃ a, x = .ref a ∧ (((∃ xs, SqL K H1 a xs) ∧ R (Itl K a) H1) ∨ ((∃ xs, SqT K H1 a xs) ∧ R (Itt K a) H1))
theorem pi_seq {l : Expr} {tl : TE} (hl : PE X l tl) : PI X tg l (iSeq X.K tl) := by
  refine ⟨fun pins s σ H R I h => ?_⟩
  refine thn (hl.run pins s σ H _ I h) fun v s1 ⟨x, H1, I1, r1, q1⟩ => ?_
  obtain ⟨a, e, q⟩ := q1
  subst e
  cases r1
  have e : ∀ b, b ∈ [s1.heap.objs.size] → FpOk X pins H1 b := fun b hb => by
    have e : b = s1.heap.objs.size := by simpa using hb
    subst e
    exact I1.fpOk (Nat.le_refl _) (I1.hok.fresh (Nat.le_refl _))
  rcases q with ⟨⟨xs, hq⟩, q⟩ | ⟨⟨xs, hq⟩, q⟩
  · obtain ⟨its, rv, p, hz⟩ := I1.list hq
    refine wpAny_pyIter_list p.isList ?_
    exact ⟨s1.heap.objs.size, [s1.heap.objs.size], _, _, H1, rfl, I1.kept (t' := s1.toks) fun b o e => Heap.get?_push_of_some _ e, turn_list a _, ⟨_, Heap.get?_push_size _ rfl, rfl, rfl⟩, e, q⟩
  · obtain ⟨its, rv, p, hz⟩ := I1.tuple hq
    refine wpAny_pyIter_tuple (show s1.heap.IsTuple a its.toArray from p) ?_
    exact ⟨s1.heap.objs.size, [s1.heap.objs.size], _, _, H1, rfl, I1.kept (t' := s1.toks) fun b o e => Heap.get?_push_of_some _ e, turn_tuple a _, ⟨_, Heap.get?_push_size _ rfl, rfl, rfl⟩, e, q⟩
theorem walks_list {K : PySem.W.Frag} {H : Hp} {a : Addr} {xs : List V} {ds : List D} (h : FzL K H a xs) (r : RepAll K H xs ds) : WalksD K (Itl K a) H ds := by
  refine ⟨fun H => FzL K H a xs ∧ RepAll K H xs ds, ⟨h, r⟩, fun A H H' s ⟨h, r⟩ => ⟨s.fzl h, r.step s⟩, fun i H ⟨h, r⟩ => ⟨fun hi => ⟨xs, h.sq, by rw [r.length]; exact hi⟩, fun d hd => ?_⟩⟩
  obtain ⟨v, h1, h2⟩ := r.get hd
  refine ⟨⟨xs, v, h.sq, h1⟩, fun x H' y => ?_⟩
  obtain ⟨e, y⟩ := y
  subst e
  have e := (y xs h.sq).symm.trans h1
  cases e
  exact ⟨Same.refl _, h2⟩
theorem walks_tup {K : PySem.W.Frag} {H : Hp} {a : Addr} {xs : List V} {ds : List D} (h : SqT K H a xs) (r : RepAll K H xs ds) : WalksD K (Itt K a) H ds := by
  refine ⟨fun H => SqT K H a xs ∧ RepAll K H xs ds, ⟨h, r⟩, fun A H H' s ⟨h, r⟩ => ⟨s.tup h, r.step s⟩, fun i H ⟨h, r⟩ => ⟨fun hi => ⟨xs, h, by rw [r.length]; exact hi⟩, fun d hd => ?_⟩⟩
  obtain ⟨v, h1, h2⟩ := r.get hd
  refine ⟨⟨xs, v, h, h1⟩, fun x H' y => ?_⟩
  obtain ⟨e, y⟩ := y
  subst e
  have e := (y xs h).symm.trans h1
  cases e
  exact ⟨Same.refl _, h2⟩
theorem walks_range {K : PySem.W.Frag} {H : Hp} {lo : Int} {n : Nat} : WalksD K (Itr lo n) H ((List.range n).map fun (i : Nat) => D.int (lo + i)) := by
  refine ⟨fun _ => True, trivial, fun _ _ _ _ _ => trivial, fun i H _ => ⟨fun hi => (by show n ≤ i; simpa using hi), fun d hd => ?_⟩⟩
  rw [List.getElem?_map] at hd
  by_cases hi : i < n
  · rw [List.getElem?_eq_getElem (by simpa using hi)] at hd
    simp only [List.getElem_range, Option.map_some, Option.some.injEq] at hd
    subst hd
    refine ⟨hi, fun x H' y => ?_⟩
    obtain ⟨e, y⟩ := y
    subst e y
    exact ⟨Same.refl _, .int _⟩
  · rw [List.getElem?_eq_none (by simpa using hi)] at hd; cases hd
def itD (d : D) (Q : List D → Prop) : Prop := match d with
  | .lst xs => Q xs
  | .tup xs => Q xs
  | _ => False
def pIter (t : PTE) : PTI := fun S Q E => t S (fun d S1 => itD d fun xs => Q xs S1) E
theorem pmi_seq (h : PM X e te) : PMI X tg e (pIter te) := fun W tk => weakI (pi_seq (h W tk)) fun σ H R => by
  rintro ⟨S, Q', E', rel, q, up, ux⟩
  refine ⟨S, _, E', rel, q, fun v d H1 S1 n1 r1 p1 q1 => ?_, ux⟩
  cases p1 with
  | lst h r => exact ⟨_, rfl, .inl ⟨⟨_, h.sq⟩, up _ _ _ _ n1 r1 (walks_list h r) q1⟩⟩
  | tup h r => exact ⟨_, rfl, .inr ⟨⟨_, h⟩, up _ _ _ _ n1 r1 (walks_tup h r) q1⟩⟩
  | _ => exact q1.elim
def rangeD (lo : Int) (n : Nat) : List D := (List.range n).map fun (i : Nat) => D.int (lo + i)
def pRng1 (t : PTA) : PTI := fun S Q E => t S (fun ds S1 => ∃ j : Int, ds = [.int j] ∧ (-(2 ^ 62) ≤ j ∧ j < 2 ^ 62) ∧ Q (rangeD 0 j.toNat) S1) E
def pRng2 (t : PTA) : PTI := fun S Q E => t S (fun ds S1 => ∃ i j : Int, ds = [.int i, .int j] ∧ (-(2 ^ 62) ≤ i ∧ i < 2 ^ 62 ∧ -(2 ^ 62) ≤ j ∧ j < 2 ^ 62) ∧ Q (rangeD i (j - i).toNat) S1) E
theorem pmi_range1 {a : Expr} {ta : PTA} {p pos : Pos} (hg : Gl X "range") (hm : X.mg "range" = none) (ha : PMA X [a] ta) (hs : starEach [a] X.env = [(false, eval a X.env)] := by rfl) : PMI X tg (.Call (.Name "range" p) [a] [] pos) (pRng1 ta) := fun W tk => weakI (pi_range1 hg hm (ha W tk) hs) fun σ H R => by
  rintro ⟨S, Q', E', rel, q, up, ux⟩
  refine ⟨S, _, E', rel, q, fun vs ds H1 S1 n1 r1 p1 q1 => ?_, ux⟩
  obtain ⟨j, rfl, ⟨h1, h2⟩, q1⟩ := q1
  cases p1 with
  | cons p pr =>
    cases pr; cases p
    exact ⟨j, rfl, h1, h2, up _ _ _ _ n1 r1 walks_range q1⟩
theorem pmi_range2 {a b : Expr} {ta : PTA} {p pos : Pos} (hg : Gl X "range") (hm : X.mg "range" = none) (ha : PMA X [a, b] ta) (hs : starEach [a, b] X.env = [(false, eval a X.env), (false, eval b X.env)] := by rfl) (hs2 : starEach [b] X.env = [(false, eval b X.env)] := by rfl) :
    PMI X tg (.Call (.Name "range" p) [a, b] [] pos) (pRng2 ta) := fun W tk => weakI (pi_range2 hg hm (ha W tk) hs hs2) fun σ H R => by
  rintro ⟨S, Q', E', rel, q, up, ux⟩
  refine ⟨S, _, E', rel, q, fun vs ds H1 S1 n1 r1 p1 q1 => ?_, ux⟩
  obtain ⟨i, j, rfl, h1, q1⟩ := q1
  cases p1 with
  | cons p pr =>
    cases pr with
    | cons p' pr => cases pr; cases p; cases p'; exact ⟨i, j, rfl, h1, up _ _ _ _ n1 r1 walks_range q1⟩
/-! ### for -/
def forW (g : PTG) (tb : PTS) (P : PEnds) : List D → Sta → Prop
  | [], S => P.nx S
  | d :: r, S => g d S fun S2 => tb { P with nx := forW g tb P r, ct := forW g tb P r, bk := P.nx } S2
def pFor (ti : PTI) (g : PTG) (tb : PTS) : PTS := fun P S => ti S (fun ds S1 => forW g tb P ds S1) P.ex
theorem pms_for {vs : List Nat} {body : List Stmt} {ti : PTI} {g : PTG} {tb : PTS} (hp : PassesOwn (model X.prog X.w) X.A X.env X.xe) (hc : X.calm = true) (hi : PMI X tg iter ti) (hg : PMG X vs tg g) (hb : PMSs X body tb)
    (hs : ∀ x, foldedSetIterable iter X.env x = pure x := by intro _; rfl) : PMS X (.For tg iter body [] pos) (pFor ti g tb) := fun W tk => weakS (ps_for hp hc (hi W tk) hg (hb W tk) hs) fun D σ H => by
  rintro ⟨S, P, rel, q, up⟩
  refine ⟨S, _, _, rel, q, fun J ds H1 S1 n1 r1 wk q1 => ?_, up.ux⟩
  obtain ⟨C, c1, cs, turn⟩ := wk
  have up1 := up.thn n1
  refine ⟨fun i m σ' H' => i + m = ds.length ∧ C H' ∧ ∃ S', Nx σ S1 H1 σ' S' H' ∧ Rel X.K H' σ' S' ∧ forW g tb P (ds.drop i) S', ⟨ds.length, by omega, c1, S1, .refl, r1, q1⟩, fun i m σ' H' h => ?_⟩
  obtain ⟨em, c, S', n, r, w⟩ := h
  obtain ⟨t1, t2⟩ := turn i H' c
  by_cases hi : i < ds.length
  · obtain ⟨go, yl⟩ := t2 _ (List.getElem?_eq_getElem hi)
    rw [List.drop_eq_getElem_cons hi] at w
    refine .inr ⟨go, fun σ2 H2 => C H2 ∧ ∃ S2, Nx σ S1 H1 σ2 S2 H2 ∧ Rel X.K H2 σ2 S2 ∧ forW g tb P (ds.drop (i + 1)) S2, fun σ2 H2 ⟨c2, S2, n2, r2, w2⟩ => ⟨m - 1, by omega, by omega, c2, S2, n2, r2, w2⟩, fun x H2 y => ?_⟩
    obtain ⟨sm, rp⟩ := yl x H2 y
    have c2 := cs (fun _ => False) _ _ (Step.of_same sm) c
    have nn : Nx σ S1 H1 σ' S' H2 := n.trans (.same sm)
    refine ⟨_, S', _, r.same sm, rp, w, fun σ3 H3 S3 _ n3 r3 q3 => ⟨S3, _, r3, q3, ⟨fun σ4 H4 S4 n4 r4 q4 => ⟨?_, S4, nn.trans (n3.trans n4), r4, q4⟩, fun v d σ4 H4 S4 n4 r4 p4 q4 => up1.rt v d σ4 H4 S4 (nn.trans (n3.trans n4)) r4 p4 q4,
      fun σ4 H4 S4 n4 r4 q4 => up1.nx σ4 H4 S4 (nn.trans (n3.trans n4)) r4 q4, fun σ4 H4 S4 n4 r4 q4 => ⟨?_, S4, nn.trans (n3.trans n4), r4, q4⟩, fun x c d σ4 H4 S4 n4 r4 p4 q4 => up1.ex x c d σ4 H4 S4 (nn.trans (n3.trans n4)) r4 p4 q4⟩⟩⟩
    · exact cs _ _ _ (n3.trans n4).st c2
    · exact cs _ _ _ (n3.trans n4).st c2
  · rw [List.drop_eq_nil_of_le (by omega)] at w
    exact .inl ⟨t1 (by omega), up1.nx σ' H' S' n r w⟩
/-! ### while -/
def pWhile (c : PTT) (tb : PTS) : PTS := fun P S => ∃ I : Nat → Sta → Prop, (∃ m, I m S) ∧ ∀ m S, I m S → c S (fun b S1 => if b = true then tb { P with nx := fun S2 => ∃ m', m' < m ∧ I m' S2, ct := fun S2 => ∃ m', m' < m ∧ I m' S2, bk := P.nx } S1 else P.nx S1) P.ex
theorem pms_while {c : Expr} {body : List Stmt} {tc : PTT} {tb : PTS} (hp : PassesOwn (model X.prog X.w) X.A X.env X.xe) (hc : PMT X c tc) (hb : PMSs X body tb) : PMS X (.While c body [] pos) (pWhile tc tb) := fun W tk => weakS (ps_while hp (hc W tk) (hb W tk)) fun D σ H => by
  rintro ⟨S, P, rel, ⟨I, ⟨m0, i0⟩, turn⟩, up⟩
  refine ⟨fun m σ' H' => ∃ S', Nx σ S H σ' S' H' ∧ Rel X.K H' σ' S' ∧ I m S', ⟨m0, S, .refl, rel, i0⟩, fun m σ' H' ⟨S', n, r, i⟩ => ?_⟩
  refine ⟨S', _, _, r, turn m S' i, fun b H1 S1 n1 r1 q1 => ?_, (up.thn n).ux⟩
  cases b with
  | true =>
    have q1 : tb { P with nx := fun S2 => ∃ m', m' < m ∧ I m' S2, ct := fun S2 => ∃ m', m' < m ∧ I m' S2, bk := P.nx } S1 := q1
    have nn := n.trans n1
    refine ⟨fun σ2 H2 => ∃ m', m' < m ∧ ∃ S2, Nx σ S H σ2 S2 H2 ∧ Rel X.K H2 σ2 S2 ∧ I m' S2, fun σ2 H2 h => h, S1, _, r1, q1, ⟨fun σ2 H2 S2 n2 r2 ⟨m', hm, q2⟩ => ⟨m', hm, S2, nn.trans n2, r2, q2⟩, fun v d σ2 H2 S2 n2 r2 p2 q2 => up.rt v d σ2 H2 S2 (nn.trans n2) r2 p2 q2,
      fun σ2 H2 S2 n2 r2 q2 => up.nx σ2 H2 S2 (nn.trans n2) r2 q2, fun σ2 H2 S2 n2 r2 ⟨m', hm, q2⟩ => ⟨m', hm, S2, nn.trans n2, r2, q2⟩, fun x c d σ2 H2 S2 n2 r2 p2 q2 => up.ex x c d σ2 H2 S2 (nn.trans n2) r2 p2 q2⟩⟩
  | false => exact up.nx _ _ _ (n.trans n1) r1 q1
end
end Pl
set_option Elab.async false
set_option linter.all false
set_option maxRecDepth 100000
set_option maxHeartbeats 4000000
/-! Pl, part 5: comprehensions -/
namespace Pl
open PySem PySem.Spec L2
open PyProof.Rows (envOfC)
def wipS (S : Sta) (vs : List Nat) : Sta := ⟨vs.foldr (fun v ρ => ρ.set v .emp) S.ρ, S.W⟩
theorem wipS_len (S : Sta) : ∀ vs : List Nat, (wipS S vs).ρ.length = S.ρ.length
  | [] => rfl
  | v :: vs => by
    show ((wipS S vs).ρ.set v .emp).length = _
    rw [List.length_set, wipS_len S vs]
theorem wipS_get (S : Sta) : ∀ (vs : List Nat) (j : Nat), (wipS S vs).ρ[j]? = if j ∈ vs then S.ρ[j]?.map (fun _ => .emp) else S.ρ[j]?
  | [], j => by simp [wipS]
  | v :: vs, j => by
    show ((wipS S vs).ρ.set v .emp)[j]? = _
    by_cases hj : v = j
    · subst hj
      by_cases hl : v < S.ρ.length
      · rw [List.getElem?_set_self (by rw [wipS_len]; exact hl), if_pos (by simp), List.getElem?_eq_getElem hl]; rfl
      · rw [List.getElem?_eq_none (by rw [List.length_set, wipS_len]; omega), if_pos (by simp), List.getElem?_eq_none (by omega)]; rfl
    · rw [List.getElem?_set_ne hj, wipS_get S vs j]
      have e : (j ∈ v :: vs) ↔ j ∈ vs := by simp [List.mem_cons, Ne.symm hj]
      by_cases hm : j ∈ vs
      · rw [if_pos hm, if_pos (e.mpr hm)]
      · rw [if_neg hm, if_neg (fun z => hm (e.mp z))]
theorem wipe_idem (σ : St) (vs : List Nat) : wipe (wipe σ vs) vs = wipe σ vs := List.ext_getElem? fun j => by
  rw [wipe_get, wipe_get]
  by_cases hj : j ∈ vs
  · rw [if_pos hj, if_pos hj, Option.map_map]; rfl
  · rw [if_neg hj, if_neg hj]
theorem wipS_idem (S : Sta) (vs : List Nat) : wipS (wipS S vs) vs = wipS S vs := by
  have e1 : (wipS (wipS S vs) vs).ρ = (wipS S vs).ρ := List.ext_getElem? fun j => by
    rw [wipS_get, wipS_get]
    by_cases hj : j ∈ vs
    · rw [if_pos hj, if_pos hj, Option.map_map]; rfl
    · rw [if_neg hj, if_neg hj]
  show (⟨(wipS (wipS S vs) vs).ρ, S.W⟩ : Sta) = ⟨(wipS S vs).ρ, S.W⟩
  rw [e1]
section
variable {K : PySem.W.Frag} {H : Hp} {σ τ : St} {S : Sta} {vs : List Nat}
theorem own_wip {i : Nat} {a : Addr} (h : OwnS σ (wipS S vs).ρ i a) : i ∉ vs ∧ OwnS σ S.ρ i a := by
  obtain ⟨⟨o, h1⟩, h2⟩ := h
  rw [wipS_get] at h1
  by_cases hm : i ∈ vs
  · rw [if_pos hm] at h1
    cases q : S.ρ[i]? with
    | none => rw [q] at h1; cases h1
    | some s => rw [q] at h1; cases h1
  · rw [if_neg hm] at h1
    exact ⟨hm, ⟨o, h1⟩, h2⟩
/-- the slots at vs forgotten on both sides: only the others count -/
theorem Rel.wip (r : Rel K H σ S) (e : wipe τ vs = wipe σ vs) : Rel K H τ (wipS S vs) ∧ ∀ a, Oa τ (wipS S vs) a → Oa σ S a := by
  have g : ∀ j : Nat, j ∉ vs → τ[j]? = σ[j]? := fun j hj => by
    have h := congrArg (fun l => l[j]?) e
    simp only [wipe_get, if_neg hj] at h
    exact h
  have bk : ∀ i a, OwnS τ (wipS S vs).ρ i a → OwnS σ S.ρ i a := fun i a h => by
    obtain ⟨hm, h1, h2⟩ := own_wip h
    exact ⟨h1, by rw [← g i hm]; exact h2⟩
  refine ⟨⟨?_, fun i s es => ?_, fun i j a h1 h2 => r.inj i j a (bk _ _ h1) (bk _ _ h2), r.wor, fun i a h => r.dis i a (bk _ _ h)⟩, fun a h => ?_⟩
  · rw [wipS_len, ← r.len]
    have h := congrArg List.length e
    rw [wipe_length, wipe_length] at h
    exact h
  · rw [wipS_get] at es
    by_cases hm : i ∈ vs
    · rw [if_pos hm] at es
      cases q : S.ρ[i]? with
      | none => rw [q] at es; cases es
      | some s' => rw [q] at es; cases es; trivial
    · rw [if_neg hm] at es
      rw [g i hm]
      exact r.slot i s es
  · rcases h with ⟨i, h⟩ | h
    · exact .inl ⟨i, bk _ _ h⟩
    · exact .inr h
end
def noX : PX := fun _ _ => False
def lcW (g : PTG) (tt : PTT) (te : PTE) (vs : List Nat) (Q : PQ) : List D → List D → Sta → Prop
  | [], acc, S => Q (.lst acc) S
  | d :: r, acc, S => g d S fun S2 => tt S2 (fun b S3 => if b = true then te S3 (fun y S4 => acc.length < sizeLine ∧ lcW g tt te vs Q r (acc ++ [y]) (wipS S4 vs)) noX else lcW g tt te vs Q r acc (wipS S3 vs)) noX
def pLc (ti : PTI) (g : PTG) (tt : PTT) (te : PTE) (vs : List Nat) : PTE := fun S Q E => ti S (fun ds S1 => lcW g tt te vs Q ds [] (wipS S1 vs)) E
def PMTs (X : Cx) (ifs : List Expr) (t : PTT) : Prop := ∀ W, Takes X W → PTs X ifs (lT X W t)
def pYes : PTT := fun S Q _ => Q true S
section
variable {X : Cx}
theorem pmts_nil : PMTs X [] pYes := fun W tk => ⟨fun pins s σ H Q I h => pts_nil.run pins s σ H Q I (by
  obtain ⟨S, Q', E', rel, q, up, _⟩ := h
  exact up _ _ _ .refl rel q)⟩
theorem pmts_one {c : Expr} {t : PTT} (h : PMT X c t) : PMTs X [c] t := fun W tk => pts_one (h W tk)
def fz (N : St → Hp → Prop) : St → Hp → Prop := fun σ H => N σ H ∨ ∃ a u, H a = some u ∧ ((∃ xs, u = .lst xs) ∨ ∃ kvs, u = .dK kvs) ∧ ∀ o, N σ (upd H a (.frz o u))
theorem ps_fz {st : Stmt} {t : TS} (h : L2.PS X st t) : L2.PS X st (fun D σ H => t { D with nx := fz D.nx } σ H) := by
  refine ⟨fun pins s σ H D I q => thn (h.run pins s σ H _ I q) fun f s' z => ?_⟩
  cases f with
  | next =>
    obtain ⟨σ', H', I', q | ⟨a, u, e, m, q⟩⟩ := z
    · exact ⟨σ', H', I', q⟩
    · obtain ⟨o, J⟩ := Inv.freeze I' e m
      exact ⟨_, _, J, q o⟩
  | brk => exact z
  | cont => exact z
  | ret u => exact z
variable {elt tg iter : Expr} {ifs : List Expr} {scope : Scope} {own : List (Str × Nat)} {pos : Pos} {ti : PTI} {g : PTG} {tt : PTT} {te : PTE}
theorem lc_core' {σ : St} {H : Hp} {S : Sta} {Q' : PQ} {E' : PX} {W : WX} {N : V → Hp → Prop} {vs : List Nat} {ta : TT} {tb : TE}
    (ea : ta = lT X (fun _ _ _ _ => False) tt) (eb : tb = lE X (fun _ _ _ _ => False) te)
    (rel : Rel X.K H σ S) (q : pLc ti g tt te vs S Q' E') (ux : UpX X.K σ S H W E')
    (fin : ∀ a acc o H' S', Nx σ S H σ S' (upd H' a (.frz o (.lst acc))) → Rel X.K (upd H' a (.frz o (.lst acc))) σ S' → H' a = some (.lst acc) → ∀ ds, Rep X.K (upd H' a (.frz o (.lst acc))) (.ref a) (.lst ds) → Q' (.lst ds) S' → N (.ref a) (upd H' a (.frz o (.lst acc)))) :
    tLc (lI X W ti) (lG X vs g) ta tb vs σ H (frz N) := by
  subst ea eb
  refine ⟨S, _, E', rel, q, fun J ds H1 S1 n1 r1 wk q1 => ?_, ux⟩
  intro Da hD
  obtain ⟨C, c1, cs, turn⟩ := wk
  have nD : ¬ Oa σ S1 Da := fun z => by
    obtain ⟨u, e, _⟩ := r1.known z
    rw [hD] at e; cases e
  have sm : Same H1 (upd H1 Da (.lst [])) := same_new hD
  obtain ⟨rw_, ow⟩ := (r1.same sm).wip (τ := wipe σ vs) (vs := vs) (wipe_idem σ vs)
  have upD : ∀ {A : Addr → Prop} {H' : Hp} {u : HO}, A Da → ¬ (∃ w, H' Da = some w ∧ Perm w) → Step A H' (upd H' Da u) := fun {A H' u} hA hp b w e z => by
    by_cases hb : b = Da
    · subst hb
      rcases z with z | z
      · exact absurd ⟨w, e, z⟩ hp
      · exact absurd hA z
    · rw [upd_ne hb]; exact e
  refine ⟨fun i m H' => i + m = ds.length ∧ C H' ∧ ∃ S' acc accD, Step (Oa σ S1) H1 H' ∧ (∀ b, H' b = none → H1 b = none) ∧ (∀ a, Oa (wipe σ vs) S' a → Oa σ S1 a ∨ (H1 a = none ∧ a ≠ Da)) ∧ Rel X.K H' (wipe σ vs) S' ∧ H' Da = some (.lst acc) ∧ RepAll X.K H' acc accD ∧ S' = wipS S' vs ∧ lcW g tt te vs Q' (ds.drop i) accD S',
    ⟨ds.length, by omega, cs (fun _ => False) _ _ (Step.of_same sm) c1, _, [], [], Step.of_same sm, same_kn sm, fun a h => .inl (ow a h), rw_, upd_same, .nil, ?_, q1⟩, fun i m H' h => ?_⟩
  · exact (wipS_idem S1 vs).symm
  obtain ⟨em, c, S', acc, accD, st, kn, oa, r, hacc, racc, ew, w⟩ := h
  have nD' : ¬ Oa (wipe σ vs) S' Da := fun z => by
    rcases oa Da z with z | ⟨_, z⟩
    · exact nD z
    · exact z rfl
  obtain ⟨t1, t2⟩ := turn i H' c
  by_cases hi : i < ds.length
  · obtain ⟨go, yl⟩ := t2 _ (List.getElem?_eq_getElem hi)
    rw [List.drop_eq_getElem_cons hi] at w
    refine .inr ⟨go, fun H2 => C H2 ∧ ∃ S2 acc2 accD2, Step (Oa σ S1) H1 H2 ∧ (∀ b, H2 b = none → H1 b = none) ∧ (∀ a, Oa (wipe σ vs) S2 a → Oa σ S1 a ∨ (H1 a = none ∧ a ≠ Da)) ∧ Rel X.K H2 (wipe σ vs) S2 ∧ H2 Da = some (.lst acc2) ∧ RepAll X.K H2 acc2 accD2 ∧ S2 = wipS S2 vs ∧ lcW g tt te vs Q' (ds.drop (i + 1)) accD2 S2,
      fun H2 ⟨c2, h2⟩ => ⟨m - 1, by omega, by omega, c2, h2⟩, fun x H2 y => ?_⟩
    obtain ⟨sm2, rp⟩ := yl x H2 y
    -- the same facts at the item's heap, and behind any step of ours
    have after : ∀ {σ3 H3 S3}, wipe σ3 vs = wipe σ vs → Nx (wipe σ vs) S' H2 σ3 S3 H3 → Rel X.K H3 σ3 S3 → C H3 ∧ Step (Oa σ S1) H1 H3 ∧ (∀ b, H3 b = none → H1 b = none) ∧ (∀ a, Oa (wipe σ vs) (wipS S3 vs) a → Oa σ S1 a ∨ (H1 a = none ∧ a ≠ Da)) ∧
        Rel X.K H3 (wipe σ vs) (wipS S3 vs) ∧ H3 Da = some (.lst acc) ∧ RepAll X.K H3 acc accD ∧ ¬ Oa (wipe σ vs) (wipS S3 vs) Da := fun {σ3 H3 S3} e3 n3 r3 => by
      have h2D : H2 Da = some (.lst acc) := sm2 _ _ hacc
      have hww : wipe (wipe σ vs) vs = wipe σ3 vs := by rw [e3, wipe_idem]
      obtain ⟨r3', o3⟩ := r3.wip (τ := wipe σ vs) (vs := vs) hww
      have oo : ∀ a, Oa (wipe σ vs) (wipS S3 vs) a → Oa σ S1 a ∨ (H1 a = none ∧ a ≠ Da) := fun a h => by
        rcases n3.oa a (o3 a h) with z | z
        · exact oa a z
        · refine .inr ⟨kn a ?_, fun e => ?_⟩
          · cases q : H' a with
            | none => rfl
            | some o => rw [sm2 a o q] at z; cases z
          · subst e; rw [h2D] at z; cases z
      refine ⟨cs _ _ _ n3.st (cs (fun _ => False) _ _ (Step.of_same sm2) c), fun b o e z => ?_, fun b h => kn b (same_kn sm2 b (n3.kn b h)), oo, r3', n3.st _ _ h2D (.inr nD'), (racc.step (Step.of_same (A := fun _ => False) sm2)).nx n3, fun z => ?_⟩
      · have e1 := sm2 _ _ (st b o e z)
        refine n3.st b o e1 (z.imp id fun n y => ?_)
        rcases oa b y with y | ⟨y, _⟩
        · exact n y
        · rw [e] at y; cases y
      · rcases oo Da z with z | ⟨_, z⟩
        · exact nD z
        · exact z rfl
    refine ⟨_, S', _, r.same sm2, rp, w, fun σ3 H3 S3 e3 n3 r3 q3 => ?_⟩
    rw [wipe_idem] at e3
    refine ⟨e3, ?_⟩
    refine ⟨S3, _, noX, r3, q3, fun b H4 S4 n4 r4 q4 => ?_, fun _ _ _ _ _ _ _ _ z => z.elim⟩
    cases b with
    | true =>
      refine ⟨S4, _, noX, r4, q4, fun v d H5 S5 n5 r5 p5 q5 => ?_, fun _ _ _ _ _ _ _ _ z => z.elim⟩
      obtain ⟨c5, st5, kn5, oa5, r5', hD5, ra5, nD5⟩ := after e3 ((n3.trans n4).trans n5) r5
      have sD : Step (fun b => b = Da) H5 (upd H5 Da (.lst (acc ++ [v]))) := upD rfl (by
        rintro ⟨w, e, p⟩
        rw [hD5] at e; cases e; exact p)
      refine ⟨acc, hD5, by rw [ra5.length]; exact q5.1, cs _ _ _ sD c5, wipS S5 vs, acc ++ [v], accD ++ [d], fun b o e z => ?_, fun b h => ?_, oa5, r5'.step sD fun a h e => nD5 (by rw [← show a = Da from e]; exact h), upd_same, (ra5.step sD).append (.cons (p5.step sD) .nil), (wipS_idem S5 vs).symm, q5.2⟩
      · rw [upd_ne (ne_of_none e hD)]; exact st5 b o e z
      · by_cases hb : b = Da
        · subst hb; exact hD
        · rw [upd_ne hb] at h; exact kn5 b h
    | false =>
      obtain ⟨c5, st5, kn5, oa5, r5', hD5, ra5, nD5⟩ := after e3 (n3.trans n4) r4
      exact ⟨c5, _, acc, accD, st5, kn5, oa5, r5', hD5, ra5, (wipS_idem S4 vs).symm, q4⟩
  · rw [List.drop_eq_nil_of_le (by omega)] at w
    refine .inl ⟨t1 (by omega), .inr ⟨Da, _, rfl, hacc, .inl ⟨_, rfl⟩, fun o => ?_⟩⟩
    obtain ⟨rb, ob⟩ := r.wip (τ := σ) (vs := vs) (wipe_idem σ vs).symm
    rw [← ew] at rb ob
    have sD : Step (fun b => b = Da) H' (upd H' Da (.frz o (.lst acc))) := upD rfl (by
      rintro ⟨w, e, p⟩
      rw [hacc] at e; cases e; exact p)
    have rr : Rel X.K (upd H' Da (.frz o (.lst acc))) σ S' := rb.step sD fun a h e => nD' (by rw [← show a = Da from e]; exact ob a h)
    refine fin Da acc o H' S' (n1.trans ⟨fun b u e z => ?_, fun b h => ?_, fun a h => ?_⟩) rr hacc accD (.lst (.inl ⟨o, upd_same⟩) (racc.step sD)) w
    · rw [upd_ne (ne_of_none e hD)]; exact st b u e z
    · by_cases hb : b = Da
      · subst hb; exact hD
      · rw [upd_ne hb] at h; exact kn b h
    · exact (oa a (ob a h)).imp id fun z => z.1
/-- [elt for tg in iter if ..] -/
theorem pm_lc (hc : X.calm = true) (hN : X.N.Nodup) (hi : PMI X tg iter ti) (ok : BlkOk X.N X.env.scope scope own)
    (hg : ∀ (s : Shared) (H : Hp) (C : Addr) (cl : List (Str × Addr)) (fp : List Addr), PMG (X.blk s H scope (compEnvC scope cl C X.env) fp) (own.map (·.2)) tg g)
    (ht : ∀ (s : Shared) (H : Hp) (C : Addr) (cl : List (Str × Addr)) (fp : List Addr), PMTs (X.blk s H scope (compEnvC scope cl C X.env) fp) ifs tt)
    (he : ∀ (s : Shared) (H : Hp) (C : Addr) (cl : List (Str × Addr)) (fp : List Addr), PM (X.blk s H scope (compEnvC scope cl C X.env) fp) elt te) (hs : ∀ x, foldedSetIterable iter X.env x = pure x := by intro _; rfl) :
    PM X (.ListComp elt [⟨tg, iter, ifs, 0⟩] scope pos) (pLc ti g tt te (own.map (·.2))) := fun W tk => weakE (pe_frz (pe_lc (g := lG X (List.map (fun p : Str × Nat => p.2) own) g) (tt := lT X (fun _ _ _ _ => False) tt) (te := lE X (fun _ _ _ _ => False) te) hc hN (hi W tk) ok hg (fun s H C cl fp => ht s H C cl fp (fun _ _ _ _ => False) takes0) (fun s H C cl fp => he s H C cl fp (fun _ _ _ _ => False) takes0) hs)) fun σ H Q => by
  rintro ⟨S, Q', E', rel, q, up, ux⟩
  exact lc_core' rfl rfl rel q ux fun a acc o H' S' n r _ ds rp q' => up _ _ _ _ n r rp q'
/-- y = [..] on one line -/
theorem pms_setLc {i : Nat} {y : Str} {py spos : Pos} (hc : X.calm = true) (hN : X.N.Nodup) (hy : X.N[i]? = some y) (hyl : X.env.scope.names.lookup y = some .local)
    (hsw : swapsWith (.ListComp elt [⟨tg, iter, ifs, 0⟩] scope pos) (some (.Name y py)) spos.line X.env = pure true) (hi : PMI X tg iter ti) (ok : BlkOk X.N X.env.scope scope own)
    (hg : ∀ (s : Shared) (H : Hp) (C : Addr) (cl : List (Str × Addr)) (fp : List Addr), PMG (X.blk s H scope (compEnvC scope cl C X.env) fp) (own.map (·.2)) tg g)
    (ht : ∀ (s : Shared) (H : Hp) (C : Addr) (cl : List (Str × Addr)) (fp : List Addr), PMTs (X.blk s H scope (compEnvC scope cl C X.env) fp) ifs tt)
    (he : ∀ (s : Shared) (H : Hp) (C : Addr) (cl : List (Str × Addr)) (fp : List Addr), PM (X.blk s H scope (compEnvC scope cl C X.env) fp) elt te) (hs : ∀ x, foldedSetIterable iter X.env x = pure x := by intro _; rfl) :
    PMS X (.Assign [.Name y py] (.ListComp elt [⟨tg, iter, ifs, 0⟩] scope pos) spos) (pSet i (pLc ti g tt te (own.map (·.2)))) := fun W tk =>
  weakS (ps_fz (ps_setLc (i := i) (g := lG X (List.map (fun p : Str × Nat => p.2) own) g) (tt := lT X (fun _ _ _ _ => False) tt) (te := lE X (fun _ _ _ _ => False) te) hc hN hy hyl hsw (hi W tk) ok hg (fun s H C cl fp => ht s H C cl fp (fun _ _ _ _ => False) takes0) (fun s H C cl fp => he s H C cl fp (fun _ _ _ _ => False) takes0) hs)) fun D σ H => by
  rintro ⟨S, P, rel, q, up⟩
  show tLc (lI X W ti) (lG X (List.map (fun p : Str × Nat => p.2) own) g) (lT X (fun _ _ _ _ => False) tt) (lE X (fun _ _ _ _ => False) te) (own.map (·.2)) σ H (fun x H1 => fz D.nx (σ.set i (some x)) H1)
  have h := lc_core' (N := fun x H1 => D.nx (σ.set i (some x)) H1) (W := W) rfl rfl rel q up.ux fun a acc o H' S' n r _ ds rp q' => by
    obtain ⟨nx, r'⟩ := r.put (i := i) rp
    exact up.nx _ _ _ (n.trans nx) r' q'
  obtain ⟨S0, Q0, E0, h1, h2, h3, h4⟩ := h
  refine ⟨S0, Q0, E0, h1, h2, fun J ds H' S' n r wk q => ?_, h4⟩
  have h5 := h3 J ds H' S' n r wk q
  intro Da hD
  obtain ⟨W1, h6, h7⟩ := h5 Da hD
  refine ⟨W1, h6, fun i m H w => (h7 i m H w).imp (fun ⟨a, b⟩ => ⟨a, ?_⟩) id⟩
  rcases b with b | ⟨c, u, e1, e2, e3, e4⟩
  · exact .inl b
  · cases e1
    exact .inr ⟨_, u, e2, e3, e4⟩
end
end Pl
set_option Elab.async false
set_option linter.all false
set_option maxRecDepth 100000
set_option maxHeartbeats 4000000
/-! Pl, part 6: operators and built-ins over data -/
namespace Pl
open PySem PySem.Spec L2
open PyProof.Rows (envOfC)
/-! ### == of data -/
mutual
def D.py : D → PyData
  | .non => .none
  | .bl b => .bool b
  | .int i => .int i
  | .str x => .str x
  | .tup xs => .tuple (D.pys xs)
  | .lst xs => .list (D.pys xs)
  | .dct _ _ => .none
  | .adr _ => .none
  | .ty _ => .none
def D.pys : List D → List PyData
  | [] => []
  | x :: r => x.py :: D.pys r
end
mutual
/-- built of None, bools, numbers, texts, tuples, lists -/
def D.plain : D → Bool
  | .non => true
  | .bl _ => true
  | .int _ => true
  | .str x => PyData.strOk x
  | .tup xs => D.plains xs
  | .lst xs => D.plains xs
  | .dct _ _ => false
  | .adr _ => false
  | .ty _ => false
def D.plains : List D → Bool
  | [] => true
  | x :: r => x.plain && D.plains r
end
mutual
def D.dep : D → Nat
  | .tup xs => D.deps xs + 1
  | .lst xs => D.deps xs + 1
  | .non => 0
  | .bl _ => 0
  | .int _ => 0
  | .str _ => 0
  | .dct _ _ => 0
  | .adr _ => 0
  | .ty _ => 0
def D.deps : List D → Nat
  | [] => 0
  | x :: r => max x.dep (D.deps r)
end
/-- what == can be asked of -/
def D.good (d : D) : Bool := d.plain && decide (d.dep ≤ 60)
def eqD (d e : D) : Bool := PyData.eqv d.py e.py
mutual
theorem py_lay : ∀ d : D, d.plain = true → d.py.canLay0 = true
  | .non, _ => by simp [D.py, PyData.canLay0]
  | .bl b, _ => by simp [D.py, PyData.canLay0]
  | .int i, _ => by simp [D.py, PyData.canLay0]
  | .str x, h => by simpa [D.py, PyData.canLay0, D.plain] using h
  | .tup xs, h => by
    simp only [D.py, PyData.canLay0]
    exact pys_lay xs (by simpa [D.plain] using h)
  | .lst xs, h => by
    simp only [D.py, PyData.canLay0]
    exact pys_lay xs (by simpa [D.plain] using h)
  | .dct _ _, h => by simp [D.plain] at h
  | .adr _, h => by simp [D.plain] at h
  | .ty _, h => by simp [D.plain] at h
theorem pys_lay : ∀ ds : List D, D.plains ds = true → PyData.canLayAll0 (D.pys ds) = true
  | [], _ => by simp [D.pys, PyData.canLayAll0]
  | d :: r, h => by
    simp only [D.plains, Bool.and_eq_true] at h
    simp only [D.pys, PyData.canLayAll0, Bool.and_eq_true]
    exact ⟨py_lay d h.1, pys_lay r h.2⟩
end
mutual
theorem py_dep : ∀ d : D, d.py.depth ≤ d.dep
  | .non => by simp [D.py, PyData.depth]
  | .bl b => by simp [D.py, PyData.depth]
  | .int i => by simp [D.py, PyData.depth]
  | .str x => by simp [D.py, PyData.depth]
  | .tup xs => by
    simp only [D.py, PyData.depth, D.dep]
    exact Nat.succ_le_succ (pys_dep xs)
  | .lst xs => by
    simp only [D.py, PyData.depth, D.dep]
    exact Nat.succ_le_succ (pys_dep xs)
  | .dct _ _ => by simp [D.py, PyData.depth]
  | .adr _ => by simp [D.py, PyData.depth]
  | .ty _ => by simp [D.py, PyData.depth]
theorem pys_dep : ∀ ds : List D, PyData.depthAll (D.pys ds) ≤ D.deps ds
  | [] => by simp [D.pys, PyData.depthAll]
  | d :: r => by
    simp only [D.pys, PyData.depthAll, D.deps]
    have h1 := py_dep d
    have h2 := pys_dep r
    omega
end
theorem D.pys_map (xs : List D) : D.pys xs = xs.map D.py := by
  induction xs with
  | nil => rfl
  | cons x r ih => simp only [D.pys, List.map_cons, ih]
theorem good_shaped {d : D} (h : d.good = true) : SeqAt.shaped d.py = true := by
  simp only [D.good, Bool.and_eq_true, decide_eq_true_eq] at h
  simp only [SeqAt.shaped, Bool.and_eq_true, decide_eq_true_eq]
  exact ⟨py_lay d h.1, Nat.le_trans (py_dep d) (by omega)⟩
section
variable {K : PySem.W.Frag} {H : Hp}
mutual
theorem Rep.dp : ∀ (d : D) {v : V}, d.plain = true → Rep K H v d → Dp K H v d.py
  | .non, _, _, h => by cases h; simp only [D.py]; exact .non
  | .bl b, _, _, h => by cases h; simp only [D.py]; exact .bl b
  | .int i, _, _, h => by cases h; simp only [D.py]; exact .int i
  | .str x, _, _, h => by cases h; simp only [D.py]; exact .str x
  | .tup xs, _, p, h => by
    cases h with
    | tup hs ha => simp only [D.py]; exact .tup hs (RepAll.dp xs (by simpa [D.plain] using p) ha)
  | .lst xs, _, p, h => by
    cases h with
    | lst hs ha => simp only [D.py]; exact .lst hs.sq (RepAll.dp xs (by simpa [D.plain] using p) ha)
  | .dct _ _, _, p, _ => by simp [D.plain] at p
  | .adr _, _, p, _ => by simp [D.plain] at p
  | .ty _, _, p, _ => by simp [D.plain] at p
theorem RepAll.dp : ∀ (ds : List D) {vs : List V}, D.plains ds = true → RepAll K H vs ds → DpAll K H vs (D.pys ds)
  | [], _, _, h => by cases h; exact .nil
  | d :: r, _, p, h => by
    simp only [D.plains, Bool.and_eq_true] at p
    cases h with
    | cons h1 h2 => exact .cons (Rep.dp d p.1 h1) (RepAll.dp r p.2 h2)
end
end
theorem good_plain {d : D} (h : d.good = true) : d.plain = true := by
  simp only [D.good, Bool.and_eq_true] at h; exact h.1
section
variable {X : Cx}
theorem OpR_or {f : Value → Value → Sem Value} {r r' : R2} (h : OpR X f r) (h' : OpR X f r') : OpR X f (fun x y H Q => r x y H Q ∨ r' x y H Q) := by
  intro pins s σ H x y v u Q I rx ry q
  rcases q with q | q
  · exact h pins s σ H x y v u Q I rx ry q
  · exact h' pins s σ H x y v u Q I rx ry q
theorem OpR_frz {f : Value → Value → Sem Value} {r : R2} (h : OpR X f r) : OpR X f (fun x y H Q => r x y H (frz Q)) := fun pins s σ H x y v u Q I rx ry q => thn (h pins s σ H x y v u _ I rx ry q) fun _ _ z => ep_frz z
theorem CallR_frz {f : Value} {r : List V → Hp → VK → Prop} (h : CallR X f r) : CallR X f (fun xs H Q => r xs H (frz Q)) := fun pins s σ H x v Q I rx q => thn (h pins s σ H x v _ I rx q) fun _ _ z => ep_frz z
theorem MtR_frz {id : String} {r : V → List V → Hp → VK → Prop} (h : MtR X id r) : MtR X id (fun x xs H Q => r x xs H (frz Q)) := fun pins s σ H x xs v us Q I rx rs q => thn (h pins s σ H x xs v us _ I rx rs q) fun _ _ z => ep_frz z
theorem SlR_frz {r : V → Option Int → Option Int → Hp → VK → Prop} (h : SlR X r) : SlR X (fun x lo hi H Q => r x lo hi H (frz Q)) := fun pins s σ H x v vl vu lo hi sl Q I rx hs pl pu q => by
  obtain ⟨T, id, h1, h2, h3⟩ := h pins s σ H x v vl vu lo hi sl _ I rx hs pl pu q
  exact ⟨T, id, h1, h2, thn h3 fun _ _ z => ep_frz z⟩
/-- a new list at p, frozen -/
theorem Fin.newL {K : PySem.W.Frag} {H : Hp} {Q : VK} {Q' : D → Prop} {p : Addr} {xs : List V} {ds : List D} (f : Fin K H Q Q') (hp : H p = none) (r : RepAll K H xs ds) (q : Q' (.lst ds)) : frz Q (.ref p) (upd H p (.lst xs)) := by
  refine .inr ⟨p, _, rfl, upd_same, .inl ⟨_, rfl⟩, fun o => ?_⟩
  have s : Same H (upd (upd H p (.lst xs)) p (.frz o (.lst xs))) := same_frz hp
  exact f _ _ _ s (.lst (.inl ⟨o, upd_same⟩) (r.step (A := fun _ => False) (Step.of_same s))) q
theorem Fin.newT {K : PySem.W.Frag} {H : Hp} {Q : VK} {Q' : D → Prop} {p : Addr} {xs : List V} {ds : List D} (f : Fin K H Q Q') (hp : H p = none) (r : RepAll K H xs ds) (q : Q' (.tup ds)) : Q (.ref p) (upd H p (.tup xs)) := by
  have s : Same H (upd H p (.tup xs)) := same_new hp
  exact f _ _ _ s (.tup (.of upd_same) (r.step (A := fun _ => False) (Step.of_same s))) q
theorem Fin.at {K : PySem.W.Frag} {H : Hp} {Q : VK} {Q' : D → Prop} {v : V} {d : D} (f : Fin K H Q Q') (r : Rep K H v d) (q : Q' d) : Q v H := f _ _ _ (Same.refl _) r q
/-! ### arithmetic -/
def oAdd : Op2 := fun x y Q => match x, y with
  | .int i, .int j => Q (.int (i + j))
  | .str x, .str y => x.length + y.length ≤ sizeLine ∧ Q (.str (x ++ y))
  | .tup xs, .tup ys => xs.length + ys.length ≤ sizeLine ∧ Q (.tup (xs ++ ys))
  | .lst xs, .lst ys => xs.length + ys.length ≤ sizeLine ∧ Q (.lst (xs ++ ys))
  | _, _ => False
/-- list + list, lists that are read -/
def rCatL (K : PySem.W.Frag) : R2 := fun x y H Q => ∃ l b xs zs, x = .ref l ∧ y = .ref b ∧ SqL K H l xs ∧ SqL K H b zs ∧ xs.length + zs.length ≤ sizeLine ∧ ∀ p, H p = none → Q (.ref p) (upd H p (.lst (xs ++ zs)))
theorem op_catL : OpR X (binaryOp .Add) (rCatL X.K) := by
  intro pins s σ H x y v u Q I rx ry h
  obtain ⟨l, b, xs, zs, rfl, rfl, hl, hb, hz, q⟩ := h
  cases rx
  cases ry
  obtain ⟨its, r1, pl, _⟩ := I.list hl
  obtain ⟨its2, r2, pb, _⟩ := I.list hb
  obtain ⟨⟨cls, dd, data, sl⟩, n, ho, hc, _, hd⟩ := pl
  obtain ⟨⟨cls2, dd2, data2, sl2⟩, n2, ho2, hc2, _, hd2⟩ := pb
  simp only at hc hd hc2 hd2
  subst hc hd hc2 hd2
  have e : its.toArray ++ its2.toArray = (its ++ its2).toArray := by simp
  refine concat_meets ⟨_, ho, rfl⟩ ⟨_, ho2, rfl⟩ noFill_list_add seq_list_add PySem.F.slot_list_add PySem.F.entry_list_add (PySem.F.args_list_add_2 _ _) (PyProof.Rows.list_addW l b its.toArray its2.toArray n n2 dd dd2 sl sl2 (by rw [List.size_toArray, List.size_toArray, ← r1.length, ← r2.length]; exact hz)) ⟨ho, ho2, ?_⟩
  rw [e]
  exact ⟨.ref _, _, I.laid (t' := s.toks) (o := .lst (xs ++ zs)) (fun b ob q => Heap.get?_push_of_some _ q) (Nat.le_refl _) ⟨by rw [List.length_append]; exact hz, _, 0, r1.append r2, Heap.get?_push_size _ rfl⟩, rfl, q _ (I.hok.fresh (Nat.le_refl _))⟩
theorem od_add : OpD X (binaryOp .Add) oAdd := by
  refine ⟨_, OpR_or op_add (OpR_or op_add_str (OpR_or op_catA (OpR_frz op_catL))), fun H x y d e Q Q' rx ry o f => ?_⟩
  unfold oAdd at o
  split at o
  · cases rx; cases ry; exact .inl ⟨_, _, rfl, rfl, f.at (.int _) o⟩
  · cases rx; cases ry; exact .inr (.inl ⟨_, _, rfl, rfl, o.1, f.at (.str _) o.2⟩)
  · rename_i xs ys
    cases rx with
    | tup h1 r1 =>
    cases ry with
    | tup h2 r2 =>
    rename_i a vs b ws
    refine .inr (.inr (.inl ⟨a, b, vs, ws, rfl, rfl, h1, h2, by rw [r1.length, r2.length]; exact o.1, fun e => ?_, fun _ e => ?_, fun _ _ p hp => ?_⟩))
    · subst e; cases r1; exact f.at (.tup h2 r2) o.2
    · subst e; cases r2; rw [List.append_nil] at o; exact f.at (.tup h1 r1) o.2
    · exact f.newT hp (r1.append r2) o.2
  · cases rx with
    | lst h1 r1 =>
    cases ry with
    | lst h2 r2 => exact .inr (.inr (.inr ⟨_, _, _, _, rfl, rfl, h1.sq, h2.sq, by rw [r1.length, r2.length]; exact o.1, fun p hp => f.newL hp (r1.append r2) o.2⟩))
  · exact o.elim
def oInt (C : Int → Int → Prop) (g : Int → Int → Int) : Op2 := fun x y Q => match x, y with
  | .int i, .int j => C i j ∧ Q (.int (g i j))
  | _, _ => False
def oCmp (g : Int → Int → Bool) : Op2 := fun x y Q => match x, y with
  | .int i, .int j => Q (.bl (g i j))
  | _, _ => False
theorem od_int {f : Value → Value → Sem Value} {C : Int → Int → Prop} {g : Int → Int → Int} (h : OpR X f (rI C fun i j => .int (g i j))) : OpD X f (oInt C g) := by
  refine ⟨_, h, fun H x y d e Q Q' rx ry o f => ?_⟩
  unfold oInt at o
  split at o
  · cases rx; cases ry; exact ⟨_, _, rfl, rfl, o.1, f.at (.int _) o.2⟩
  · exact o.elim
theorem od_int0 {f : Value → Value → Sem Value} {g : Int → Int → Int} (h : OpR X f (rI0 fun i j => .int (g i j))) : OpD X f (oInt (fun _ _ => True) g) := by
  refine ⟨_, h, fun H x y d e Q Q' rx ry o f => ?_⟩
  unfold oInt at o
  split at o
  · cases rx; cases ry; exact ⟨_, _, rfl, rfl, f.at (.int _) o.2⟩
  · exact o.elim
theorem od_cmp {f : Value → Value → Sem Value} {g : Int → Int → Bool} (h : OpR X f (rI0 fun i j => .bl (g i j))) : OpD X f (oCmp g) := by
  refine ⟨_, h, fun H x y d e Q Q' rx ry o f => ?_⟩
  unfold oCmp at o
  split at o
  · cases rx; cases ry; exact ⟨_, _, rfl, rfl, f.at (.bl _) o⟩
  · exact o.elim
theorem od_sub : OpD X (binaryOp .Sub) (oInt (fun _ _ => True) fun i j => i - j) := od_int0 op_sub
theorem od_pow : OpD X (binaryOp .Pow) (oInt CPow fun i j => i ^ j.toNat) := od_int op_pow
def CDv (_ j : Int) : Prop := 0 < j ∧ j < 2 ^ 200
theorem CDv.w {i j : Int} (h : CDv i j) : CDivW i j := wide_div (b := 200) h.1 (by have := h.1; have := h.2; omega) (by decide) (by decide)
theorem op_fdivV : OpR X (binaryOp .FloorDiv) (rI CDv fun i j => .int (i / j)) := fun pins s σ H x y v u Q I rx ry h => by
  obtain ⟨i, j, e1, e2, hc, q⟩ := h
  exact op_fdivW pins s σ H x y v u Q I rx ry ⟨i, j, e1, e2, hc.w, q⟩
theorem od_fdiv : OpD X (binaryOp .FloorDiv) (oInt CDv fun i j => i / j) := od_int op_fdivV
theorem od_mod : OpD X (binaryOp .Mod) (oInt (fun _ j => 0 < j) fun i j => i % j) := od_int op_mod
/-- a product; a list, a tuple times an int: elsewhere -/
theorem od_mul : OpD X (binaryOp .Mult) (oInt CMul fun i j => i * j) := od_int op_mul
theorem od_lt : OpD X (compareOp .Lt) (oCmp fun i j => decide (i < j)) := od_cmp op_lt
theorem od_le : OpD X (compareOp .LtE) (oCmp fun i j => decide (i ≤ j)) := od_cmp op_le
theorem od_gt : OpD X (compareOp .Gt) (oCmp fun i j => decide (j < i)) := od_cmp op_gt
theorem od_ge : OpD X (compareOp .GtE) (oCmp fun i j => decide (j ≤ i)) := od_cmp op_ge
def oNeg : D → (D → Prop) → Prop := fun x Q => match x with
  | .int i => Q (.int (-i))
  | _ => False
theorem ud_neg : UnD X (unaryOp .USub) oNeg := by
  refine ⟨_, un_neg, fun H x d Q Q' rx o f => ?_⟩
  unfold oNeg at o
  split at o
  · cases rx; exact ⟨_, rfl, f.at (.int _) o⟩
  · exact o.elim
/-! ### ==, in, is None -/
def oEq : Op2 := fun x y Q => x.good = true ∧ y.good = true ∧ Q (.bl (eqD x y))
def oNe : Op2 := fun x y Q => x.good = true ∧ y.good = true ∧ Q (.bl (!eqD x y))
theorem od_eq (hu : X.A.units + 64 < cLine) : OpD X (compareOp .Eq) oEq := ⟨_, op_eqD hu, fun H x y d e Q Q' rx ry ⟨g1, g2, o⟩ f =>
  ⟨d.py, e.py, Rep.dp d (good_plain g1) rx, Rep.dp e (good_plain g2) ry, good_shaped g1, good_shaped g2, f.at (.bl _) o⟩⟩
theorem od_ne (hu : X.A.units + 64 < cLine) : OpD X (compareOp .NotEq) oNe := ⟨_, op_neD hu, fun H x y d e Q Q' rx ry ⟨g1, g2, o⟩ f =>
  ⟨d.py, e.py, Rep.dp d (good_plain g1) rx, Rep.dp e (good_plain g2) ry, good_shaped g1, good_shaped g2, f.at (.bl _) o⟩⟩
def rInT (K : PySem.W.Frag) (neg : Bool) : R2 := fun x y H Q => ∃ d ds, Dp K H x d ∧ Dp K H y (.tuple ds) ∧ SeqAt.shaped d = true ∧ SeqAt.shaped (.tuple ds) = true ∧ Q (.bl (if neg then !(ds.any fun z => PyData.eqv z d) else ds.any fun z => PyData.eqv z d)) H
theorem room_in_t {A : Around} {d : PyData} {ds : List PyData} (h : SeqAt.shaped d = true) (hu : A.units + 65 < cLine) : A.units + 1 + min (PyData.depthAll ds) d.depth < cLine := by
  have h1 := SeqAt.depth_of_shaped h
  have h2 : min (PyData.depthAll ds) d.depth ≤ d.depth := Nat.min_le_right _ _
  omega
theorem op_inT (hu : X.A.units + 65 < cLine) : OpR X (compareOp .In) (rInT X.K false) := by
  intro pins s σ H x y v u Q I rx ry h
  obtain ⟨d, ds, hd, he, sd, se, q⟩ := h
  obtain ⟨as, r1⟩ := Dp.reads I d x v hd rx
  obtain ⟨bs, r2⟩ := Dp.reads I (.tuple ds) y u he ry
  exact SeqAt.in_tuple_reads r2 r1 (SeqAt.canLay_of_shaped se) (SeqAt.canLay_of_shaped sd) (room_in_t sd hu) ⟨.bl _, H, I, rfl, q⟩
theorem op_notInT (hu : X.A.units + 65 < cLine) : OpR X (compareOp .NotIn) (rInT X.K true) := by
  intro pins s σ H x y v u Q I rx ry h
  obtain ⟨d, ds, hd, he, sd, se, q⟩ := h
  obtain ⟨as, r1⟩ := Dp.reads I d x v hd rx
  obtain ⟨bs, r2⟩ := Dp.reads I (.tuple ds) y u he ry
  exact SeqAt.notIn_tuple_reads r2 r1 (SeqAt.canLay_of_shaped se) (SeqAt.canLay_of_shaped sd) (room_in_t sd hu) ⟨.bl _, H, I, rfl, q⟩
def oIn (neg : Bool) : Op2 := fun x y Q => match y with
  | .tup ys => x.good = true ∧ D.good (.tup ys) = true ∧ Q (.bl (if neg then !(ys.any fun z => eqD z x) else ys.any fun z => eqD z x))
  | .lst ys => x.good = true ∧ D.good (.lst ys) = true ∧ Q (.bl (if neg then !(ys.any fun z => eqD z x) else ys.any fun z => eqD z x))
  | .str t => match x with
    | .str w => Q (.bl (if neg then !(!(Builtin.Str.occurrences t w 0 t.length 1).isEmpty) else !(Builtin.Str.occurrences t w 0 t.length 1).isEmpty))
    | _ => False
  | _ => False
theorem any_pys (ys : List D) (x : D) : ((D.pys ys).any fun z => PyData.eqv z x.py) = ys.any fun z => eqD z x := by
  rw [D.pys_map, List.any_map]; rfl
theorem od_in (hu : X.A.units + 65 < cLine) : OpD X (compareOp .In) (oIn false) := by
  refine ⟨_, OpR_or (op_inT hu) (OpR_or (op_inD hu) op_in_str), fun H x y d e Q Q' rx ry o f => ?_⟩
  unfold oIn at o
  split at o
  · rename_i ys
    obtain ⟨g1, g2, o⟩ := o
    have h := Rep.dp _ (good_plain g2) ry
    have s2 := good_shaped g2
    simp only [D.py] at h s2
    exact .inl ⟨d.py, D.pys ys, Rep.dp d (good_plain g1) rx, h, good_shaped g1, s2, f.at (by simp only [any_pys]; exact .bl _) o⟩
  · rename_i ys
    obtain ⟨g1, g2, o⟩ := o
    have h := Rep.dp _ (good_plain g2) ry
    have s2 := good_shaped g2
    simp only [D.py] at h s2
    exact .inr (.inl ⟨d.py, D.pys ys, Rep.dp d (good_plain g1) rx, h, good_shaped g1, s2, f.at (by simp only [any_pys]; exact .bl _) o⟩)
  · split at o
    · cases rx; cases ry; exact .inr (.inr ⟨_, _, rfl, rfl, f.at (.bl _) o⟩)
    · exact o.elim
  · exact o.elim
theorem od_notIn (hu : X.A.units + 65 < cLine) : OpD X (compareOp .NotIn) (oIn true) := by
  refine ⟨_, OpR_or (op_notInT hu) (OpR_or (op_notInD hu) op_notin_str), fun H x y d e Q Q' rx ry o f => ?_⟩
  unfold oIn at o
  split at o
  · rename_i ys
    obtain ⟨g1, g2, o⟩ := o
    have h := Rep.dp _ (good_plain g2) ry
    have s2 := good_shaped g2
    simp only [D.py] at h s2
    exact .inl ⟨d.py, D.pys ys, Rep.dp d (good_plain g1) rx, h, good_shaped g1, s2, f.at (by simp only [any_pys]; exact .bl _) o⟩
  · rename_i ys
    obtain ⟨g1, g2, o⟩ := o
    have h := Rep.dp _ (good_plain g2) ry
    have s2 := good_shaped g2
    simp only [D.py] at h s2
    exact .inr (.inl ⟨d.py, D.pys ys, Rep.dp d (good_plain g1) rx, h, good_shaped g1, s2, f.at (by simp only [any_pys]; exact .bl _) o⟩)
  · split at o
    · cases rx; cases ry; exact .inr (.inr ⟨_, _, rfl, rfl, f.at (.bl _) o⟩)
    · exact o.elim
  · exact o.elim
/-- is None, is not None -/
def D.isN : D → Bool
  | .non => true
  | _ => false
def oIsN (neg : Bool) : Op2 := fun x y Q => match y with
  | .non => Q (.bl (if neg then !x.isN else x.isN))
  | _ => False
theorem isN_rep {K : PySem.W.Frag} {H : Hp} {v : V} {d : D} (r : Rep K H v d) : decide (v = .non) = d.isN := by
  cases r <;> simp [D.isN]
theorem od_isN : OpD X (compareOp .Is) (oIsN false) := by
  refine ⟨_, op_isN, fun H x y d e Q Q' rx ry o f => ?_⟩
  unfold oIsN at o
  split at o
  · cases ry
    exact ⟨rfl, f.at (by rw [isN_rep rx]; exact .bl _) o⟩
  · exact o.elim
theorem od_notN : OpD X (compareOp .IsNot) (oIsN true) := by
  refine ⟨_, op_notN, fun H x y d e Q Q' rx ry o f => ?_⟩
  unfold oIsN at o
  split at o
  · cases ry
    exact ⟨rfl, f.at (by rw [isN_rep rx]; exact .bl _) o⟩
  · exact o.elim
/-! ### subscripts, slices -/
def oIx : Op2 := fun x y Q => match x, y with
  | .tup xs, .int i => ∃ d, atI xs i = some d ∧ Q d
  | .lst xs, .int i => ∃ d, atI xs i = some d ∧ Q d
  | .str z, .int i => z.length ≤ sizeLine ∧ ∃ c, atI z.cps.toList i = some c ∧ Q (.str ⟨#[c]⟩)
  | _, _ => False
theorem atI_rep {K : PySem.W.Frag} {H : Hp} {vs : List V} {ds : List D} {i : Int} {d : D} (r : RepAll K H vs ds) (h : atI ds i = some d) : ∃ v, atI vs i = some v ∧ Rep K H v d := by
  unfold atI at h ⊢
  rw [r.length]
  cases e : ixN ds.length i with
  | none => rw [e] at h; cases h
  | some j => rw [e] at h; exact r.get h
theorem ixd : IxD X oIx := by
  refine ⟨_, ix_seq, fun H x y d e Q Q' rx ry o f => ?_⟩
  unfold oIx at o
  split at o
  · cases rx with
    | tup h r =>
      cases ry
      obtain ⟨c, e, o⟩ := o
      obtain ⟨v, e1, rv⟩ := atI_rep r e
      exact .inr (.inl ⟨_, _, _, v, rfl, rfl, h, e1, f.at rv o⟩)
  · cases rx with
    | lst h r =>
      cases ry
      obtain ⟨c, e, o⟩ := o
      obtain ⟨v, e1, rv⟩ := atI_rep r e
      exact .inl ⟨_, _, _, v, rfl, rfl, h.sq, e1, f.at rv o⟩
  · cases rx; cases ry
    obtain ⟨hz, c, e, o⟩ := o
    exact .inr (.inr ⟨_, _, c, rfl, rfl, hz, e, f.at (.str _) o⟩)
  · exact o.elim
/-- xs[lo:hi] -/
def cutD (xs : List D) (lo hi : Option Int) : List D := (xs.drop (HT.sIx xs.length 0 lo)).take (HT.sIx xs.length xs.length hi - HT.sIx xs.length 0 lo)
def oSl : D → Option Int → Option Int → (D → Prop) → Prop := fun x lo hi Q => match x with
  | .tup xs => Q (.tup (cutD xs lo hi))
  | .lst xs => Q (.lst (cutD xs lo hi))
  | _ => False
theorem cut_rep {K : PySem.W.Frag} {H : Hp} {vs : List V} {ds : List D} (r : RepAll K H vs ds) (lo hi : Option Int) : RepAll K H (cutV vs lo hi) (cutD ds lo hi) := by
  unfold cutV cutD
  rw [r.length]
  exact (r.drop _).take _
theorem sld : SlD X oSl := by
  refine ⟨_, SlR.or sl_tupA (SlR_frz sl_list), fun H x d lo hi Q Q' rx o f => ?_⟩
  unfold oSl at o
  split at o
  · cases rx with
    | tup h r =>
      refine .inl ⟨_, _, rfl, h, fun hw => ?_, fun _ p hp => f.newT hp (cut_rep r lo hi) o⟩
      refine f.at (.tup h r) ?_
      rename_i xs _ _
      have hl := r.length
      rw [hl] at hw
      have e : cutD xs lo hi = xs := by
        unfold cutD
        rw [hw.1, hw.2, List.drop_zero, Nat.sub_zero, List.take_length]
      rw [e] at o
      exact o
  · cases rx with
    | lst h r => exact .inr ⟨_, _, rfl, h.sq, fun p hp => f.newL hp (cut_rep r lo hi) o⟩
  · exact o.elim
/-! ### built-ins -/
def oLen : OpN := fun ds Q => match ds with
  | [.tup xs] => Q (.int xs.length)
  | [.lst xs] => Q (.int xs.length)
  | [.str z] => z.length ≤ sizeLine ∧ Q (.int z.length)
  | _ => False
theorem cd_len : CallD X (.builtin "len") oLen := by
  refine ⟨_, CallR.or call_len_seq call_len_str, fun H xs ds Q Q' r o f => ?_⟩
  unfold oLen at o
  split at o
  · cases r with
    | cons r1 rr =>
      cases rr
      cases r1 with
      | tup h ra => exact .inl ⟨_, _, rfl, .inr h, by rw [ra.length]; exact f.at (.int _) o⟩
  · cases r with
    | cons r1 rr =>
      cases rr
      cases r1 with
      | lst h ra => exact .inl ⟨_, _, rfl, .inl h.sq, by rw [ra.length]; exact f.at (.int _) o⟩
  · cases r with
    | cons r1 rr => cases rr; cases r1; exact .inr ⟨_, rfl, o.1, f.at (.int _) o.2⟩
  · exact o.elim
theorem rep1 {K : PySem.W.Frag} {H : Hp} {xs : List V} {d : D} (r : RepAll K H xs [d]) : ∃ v, xs = [v] ∧ Rep K H v d := by
  cases r with
  | cons r1 rr => cases rr; exact ⟨_, rfl, r1⟩
theorem rep2 {K : PySem.W.Frag} {H : Hp} {xs : List V} {d e : D} (r : RepAll K H xs [d, e]) : ∃ v w, xs = [v, w] ∧ Rep K H v d ∧ Rep K H w e := by
  cases r with
  | cons r1 rr =>
    cases rr with
    | cons r2 rr => cases rr; exact ⟨_, _, rfl, r1, r2⟩
def o1I (g : Int → Int) : OpN := fun ds Q => match ds with
  | [.int i] => Q (.int (g i))
  | _ => False
def o2I (g : Int → Int → Int) : OpN := fun ds Q => match ds with
  | [.int i, .int j] => Q (.int (g i j))
  | _ => False
theorem cd_abs : CallD X (.builtin "abs") (o1I fun i => if i < 0 then -i else i) := by
  refine ⟨_, call_abs, fun H xs ds Q Q' r o f => ?_⟩
  unfold o1I at o
  split at o
  · obtain ⟨v, rfl, r1⟩ := rep1 r
    cases r1; exact ⟨_, rfl, f.at (.int _) o⟩
  · exact o.elim
theorem cd_int : CallD X (.type "int") (o1I fun i => i) := by
  refine ⟨_, call_int1, fun H xs ds Q Q' r o f => ?_⟩
  unfold o1I at o
  split at o
  · obtain ⟨v, rfl, r1⟩ := rep1 r
    cases r1; exact .inl ⟨_, rfl, f.at (.int _) o⟩
  · exact o.elim
theorem cd_max2 (hc : X.calm = true) : CallD X (.builtin "max") (o2I fun i j => if j > i then j else i) := by
  refine ⟨_, call_max2 hc, fun H xs ds Q Q' r o f => ?_⟩
  unfold o2I at o
  split at o
  · obtain ⟨v, w, rfl, r1, r2⟩ := rep2 r
    cases r1; cases r2; exact ⟨_, _, rfl, f.at (.int _) o⟩
  · exact o.elim
theorem cd_min2 (hc : X.calm = true) : CallD X (.builtin "min") (o2I fun i j => if j < i then j else i) := by
  refine ⟨_, call_min2 hc, fun H xs ds Q Q' r o f => ?_⟩
  unfold o2I at o
  split at o
  · obtain ⟨v, w, rfl, r1, r2⟩ := rep2 r
    cases r1; cases r2; exact ⟨_, _, rfl, f.at (.int _) o⟩
  · exact o.elim
/-- lists of numbers, of bools -/
def intsD : List D → Option (List Int)
  | [] => some []
  | .int i :: r => (intsD r).map (i :: ·)
  | _ :: _ => none
def blsD : List D → Option (List Bool)
  | [] => some []
  | .bl i :: r => (blsD r).map (i :: ·)
  | _ :: _ => none
theorem ints_rep {K : PySem.W.Frag} {H : Hp} : ∀ {vs : List V} {ds : List D} {ns : List Int}, RepAll K H vs ds → intsD ds = some ns → vs = ns.map V.int
  | _, [], _, h, e => by cases h; simp [intsD] at e; subst e; rfl
  | _, d :: r, ns, h, e => by
    cases h with
    | cons h1 h2 =>
      cases h1 with
      | int i =>
        simp only [intsD, Option.map_eq_some_iff] at e
        obtain ⟨ms, e, rfl⟩ := e
        rw [ints_rep h2 e]; rfl
      | _ => simp [intsD] at e
theorem bls_rep {K : PySem.W.Frag} {H : Hp} : ∀ {vs : List V} {ds : List D} {ns : List Bool}, RepAll K H vs ds → blsD ds = some ns → vs = ns.map V.bl
  | _, [], _, h, e => by cases h; simp [blsD] at e; subst e; rfl
  | _, d :: r, ns, h, e => by
    cases h with
    | cons h1 h2 =>
      cases h1 with
      | bl i =>
        simp only [blsD, Option.map_eq_some_iff] at e
        obtain ⟨ms, e, rfl⟩ := e
        rw [bls_rep h2 e]; rfl
      | _ => simp [blsD] at e
theorem ints_map (ns : List Int) : intsD (ns.map D.int) = some ns := by
  induction ns with
  | nil => rfl
  | cons n r ih => simp only [List.map_cons, intsD, ih]; rfl
theorem bls_map (ns : List Bool) : blsD (ns.map D.bl) = some ns := by
  induction ns with
  | nil => rfl
  | cons n r ih => simp only [List.map_cons, blsD, ih]; rfl
def oSum : OpN := fun ds Q => ∃ xs ns, ds = [.lst xs] ∧ intsD xs = some ns ∧ Q (.int ns.sum)
theorem cd_sum (hc : X.calm = true) : CallD X (.builtin "sum") oSum := by
  refine ⟨_, cr_sum hc, fun H xs ds Q Q' r o f => ?_⟩
  obtain ⟨ys, ns, rfl, e, o⟩ := o
  obtain ⟨v, rfl, r1⟩ := rep1 r
  cases r1 with
  | lst h ra => exact ⟨_, ns, rfl, by rw [← ints_rep ra e]; exact h.sq, f.at (.int _) o⟩
def oAll : OpN := fun ds Q => ∃ xs bs, ds = [.lst xs] ∧ blsD xs = some bs ∧ Q (.bl (bs.all id))
def oAny : OpN := fun ds Q => ∃ xs bs, ds = [.lst xs] ∧ blsD xs = some bs ∧ Q (.bl (bs.any id))
theorem cd_all (hc : X.calm = true) : CallD X (.builtin "all") oAll := by
  refine ⟨_, cr_all hc, fun H xs ds Q Q' r o f => ?_⟩
  obtain ⟨ys, ns, rfl, e, o⟩ := o
  obtain ⟨v, rfl, r1⟩ := rep1 r
  cases r1 with
  | lst h ra => exact ⟨_, ns, rfl, by rw [← bls_rep ra e]; exact h.sq, f.at (.bl _) o⟩
theorem cd_any (hc : X.calm = true) : CallD X (.builtin "any") oAny := by
  refine ⟨_, cr_any hc, fun H xs ds Q Q' r o f => ?_⟩
  obtain ⟨ys, ns, rfl, e, o⟩ := o
  obtain ⟨v, rfl, r1⟩ := rep1 r
  cases r1 with
  | lst h ra => exact ⟨_, ns, rfl, by rw [← bls_rep ra e]; exact h.sq, f.at (.bl _) o⟩
/-- list(x), tuple(x) -/
def oList : OpN := fun ds Q => match ds with
  | [.tup xs] => Q (.lst xs)
  | [.lst xs] => Q (.lst xs)
  | _ => False
def oTuple : OpN := fun ds Q => match ds with
  | [.tup xs] => Q (.tup xs)
  | [.lst xs] => Q (.tup xs)
  | _ => False
theorem cd_list : CallD X (.type "list") oList := by
  refine ⟨_, CallR_frz call_list_of, fun H xs ds Q Q' r o f => ?_⟩
  unfold oList at o
  split at o
  · obtain ⟨v, rfl, r1⟩ := rep1 r
    cases r1 with
    | tup h ra => exact ⟨_, _, rfl, .inr h, fun l hl => f.newL hl ra o⟩
  · obtain ⟨v, rfl, r1⟩ := rep1 r
    cases r1 with
    | lst h ra => exact ⟨_, _, rfl, .inl h.sq, fun l hl => f.newL hl ra o⟩
  · exact o.elim
theorem cd_tuple : CallD X (.type "tuple") oTuple := by
  refine ⟨_, call_tuple_of, fun H xs ds Q Q' r o f => ?_⟩
  unfold oTuple at o
  split at o
  · obtain ⟨v, rfl, r1⟩ := rep1 r
    cases r1 with
    | tup h ra => exact ⟨_, _, rfl, .inr ⟨h, f.at (.tup h ra) o⟩⟩
  · obtain ⟨v, rfl, r1⟩ := rep1 r
    cases r1 with
    | lst h ra => exact ⟨_, _, rfl, .inl ⟨h.sq, fun l hl => f.newT hl ra o⟩⟩
  · exact o.elim
/-- isinstance(x, T), T a built-in class -/
def D.tyN : D → Option String
  | .non => some "NoneType"
  | .bl _ => some "bool"
  | .int _ => some "int"
  | .str _ => some "str"
  | .tup _ => some "tuple"
  | .lst _ => some "list"
  | _ => none
/-- data without dicts, objects and classes at its top -/
def D.dat : D → Bool
  | .dct _ _ => false
  | .adr _ => false
  | .ty _ => false
  | _ => true
def D.isInt : D → Bool
  | .int _ => true
  | .bl _ => true
  | _ => false
def D.isBool : D → Bool
  | .bl _ => true
  | _ => false
def D.isStr : D → Bool
  | .str _ => true
  | _ => false
def D.isTup : D → Bool
  | .tup _ => true
  | _ => false
def D.isLst : D → Bool
  | .lst _ => true
  | _ => false
def isiB (x : D) (T : String) : Bool := match T with
  | "int" => x.isInt
  | "bool" => x.isBool
  | "str" => x.isStr
  | "tuple" => x.isTup
  | "list" => x.isLst
  | _ => false
def isiT (T : String) : Bool := match T with
  | "int" => true
  | "bool" => true
  | "str" => true
  | "tuple" => true
  | "list" => true
  | _ => false
theorem isi_int (x : D) : isiB x "int" = x.isInt := rfl
theorem isi_bool (x : D) : isiB x "bool" = x.isBool := rfl
theorem isi_str (x : D) : isiB x "str" = x.isStr := rfl
theorem isi_tuple (x : D) : isiB x "tuple" = x.isTup := rfl
theorem isi_list (x : D) : isiB x "list" = x.isLst := rfl
theorem isiT_int : isiT "int" = true := rfl
theorem isiT_bool : isiT "bool" = true := rfl
theorem isiT_str : isiT "str" = true := rfl
theorem isiT_tuple : isiT "tuple" = true := rfl
theorem isiT_list : isiT "list" = true := rfl
def oIsi : OpN := fun ds Q => match ds with
  | [x, .ty T] => x.dat = true ∧ isiT T = true ∧ Q (.bl (isiB x T))
  | _ => False
theorem ty_rep {K : PySem.W.Frag} {H : Hp} {v : V} {d : D} {t : String} (r : Rep K H v d) (h : d.tyN = some t) : TyX K H v (.type t) := by
  cases r with
  | non => cases h; exact .base .non
  | bl b => cases h; exact .base (.bl b)
  | int i => cases h; exact .base (.int i)
  | str x => cases h; exact .base (.str x)
  | tup hs ra =>
    cases h
    rcases hs with (hs | ⟨o, hs⟩) | ⟨o, its, n, hk, hc, _⟩
    · exact .base (.tup hs)
    · exact .fTuple hs
    · exact .kTuple hk hc
  | lst hs ra =>
    cases h
    rcases hs with ⟨o, hs⟩ | ⟨o, its, n, hk, hc, _⟩
    · exact .base (.frz hs)
    · exact .kList hk hc
  | dct _ _ => cases h
  | adr _ => cases h
  | ty _ => cases h
theorem isiB_kit {T : String} {d : D} (h1 : d.dat = true) (h2 : isiT T = true) : ∃ t, d.tyN = some t ∧ kitB t T = some (isiB d T) := by
  unfold isiT at h2
  split at h2
  all_goals first | (cases h2; done) | skip
  all_goals (cases d <;> simp only [D.dat, Bool.false_eq_true] at h1 <;> exact ⟨_, rfl, by simp only [isiB, D.isInt, D.isBool, D.isStr, D.isTup, D.isLst]; decide +kernel⟩)
theorem cd_isi : CallD X (.builtin "isinstance") oIsi := by
  refine ⟨_, call_isi, fun H xs ds Q Q' r o f => ?_⟩
  unfold oIsi at o
  split at o
  · obtain ⟨v, w, rfl, r1, r2⟩ := rep2 r
    obtain ⟨h1, h2, o⟩ := o
    obtain ⟨t, ht, hk⟩ := isiB_kit h1 h2
    cases r2
    exact ⟨v, _, .type t, _, _, rfl, .ty _, ty_rep r1 ht, kit_ty hk, f.at (.bl _) o⟩
  · exact o.elim
end
end Pl
set_option Elab.async false
set_option linter.all false
set_option maxRecDepth 100000
set_option maxHeartbeats 4000000
/-! Pl, part 7: own objects: made, read, changed -/
namespace Pl
open PySem PySem.Spec L2
open PyProof.Rows (envOfC)
/-- where something is found: a value, or the own object of a slot -/
inductive Pk where
  | val (d : D) | slot (i : Nat)
inductive Con where
  | val (d : D) | own (o : Own) | bad
def con (S : Sta) : Pk → Con
  | .val (.adr a) => match S.W a with
    | some o => .own o
    | none => .val (.adr a)
  | .val d => .val d
  | .slot i => match S.ρ[i]? with
    | some (.own o) => .own o
    | some (.val d) => .val d
    | _ => .bad
def RepK (K : PySem.W.Frag) (H : Hp) (σ : St) (v : V) : Pk → Prop
  | .val d => Rep K H v d
  | .slot i => σ[i]? = some (some v)
def RepC (K : PySem.W.Frag) (H : Hp) (v : V) : Con → Prop
  | .val d => Rep K H v d
  | .own o => ∃ a, v = .ref a ∧ OwnAt K H a o
  | .bad => True
theorem con_rep {K : PySem.W.Frag} {H : Hp} {σ : St} {S : Sta} {v : V} {p : Pk} (r : Rel K H σ S) (h : RepK K H σ v p) : RepC K H v (con S p) := by
  cases p with
  | val d =>
    cases d with
    | adr a =>
      show RepC K H v (match S.W a with | some o => .own o | none => .val (.adr a))
      cases e : S.W a with
      | some o => cases h; exact ⟨a, rfl, r.wor a o e⟩
      | none => exact h
    | _ => exact h
  | slot i =>
    show RepC K H v (match S.ρ[i]? with | some (.own o) => .own o | some (.val d) => .val d | _ => .bad)
    cases e : S.ρ[i]? with
    | none => trivial
    | some s =>
      have q := r.slot i s e
      have h' : σ[i]? = some (some v) := h
      cases s with
      | emp => trivial
      | val d => obtain ⟨w, e1, e2⟩ := q; rw [h'] at e1; cases e1; exact e2
      | own o => obtain ⟨a, e1, e2⟩ := q; rw [h'] at e1; cases e1; exact ⟨a, rfl, e2⟩
theorem RepK.nx {K : PySem.W.Frag} {σ : St} {S S1 : Sta} {H H1 : Hp} {v : V} {p : Pk} (n : Nx σ S H σ S1 H1) (h : RepK K H σ v p) : RepK K H1 σ v p := by
  cases p with
  | val d => exact Rep.nx n h
  | slot i => exact h
abbrev PTK := Sta → (Pk → Sta → Prop) → PX → Prop
def lK (X : Cx) (W : WX) (t : PTK) : TE := fun σ H Q => ∃ S Q' E', Rel X.K H σ S ∧ t S Q' E' ∧ (∀ v p H' S', Nx σ S H σ S' H' → Rel X.K H' σ S' → RepK X.K H' σ v p → Q' p S' → Q v H') ∧ UpX X.K σ S H W E'
def PK (X : Cx) (e : Expr) (t : PTK) : Prop := ∀ W, Takes X W → PE X e (lK X W t)
def pkVar (i : Nat) : PTK := fun S Q _ => match S.ρ[i]? with
  | some (.val d) => Q (.val d) S
  | some (.own _) => Q (.slot i) S
  | _ => False
def pkOf (t : PTE) : PTK := fun S Q E => t S (fun d S1 => Q (.val d) S1) E
section
variable {X : Cx} {e a b : Expr} {te ta tb : PTE} {tk : PTK} {pos : Pos}
theorem pk_var {i : Nat} (h : PE X e (tVar i)) : PK X e (pkVar i) := fun W _ => weakE h fun σ H Q => by
  rintro ⟨S, Q', E', rel, q, up, _⟩
  unfold pkVar at q
  split at q
  · rename_i d es
    obtain ⟨v, h1, h2⟩ := rel.slot i _ es
    exact ⟨v, h1, up v (.val d) _ _ .refl rel h2 q⟩
  · rename_i o es
    obtain ⟨a, h1, _⟩ := rel.slot i _ es
    exact ⟨_, h1, up _ (.slot i) _ _ .refl rel h1 q⟩
  · exact q.elim
theorem pk_of (h : PM X e te) : PK X e (pkOf te) := fun W tk => weakE (h W tk) fun σ H Q => by
  rintro ⟨S, Q', E', rel, q, up, ux⟩
  exact ⟨S, _, E', rel, q, fun v d H1 S1 n1 r1 p1 q1 => up v (.val d) H1 S1 n1 r1 p1 q1, ux⟩
/-! ### dicts as data -/
def keyK : D → Option Key
  | .int i => some (.inl i)
  | .str x => some (.inr x)
  | _ => none
def dget (ks vs : List D) (k : D) : Option D := ((ks.zip vs).find? fun p => eqD p.1 k).map (·.2)
def dput (ks vs : List D) (k v : D) : List D × List D := if (ks.any fun x => eqD x k) = true then (ks, (ks.zip vs).map fun p => if eqD p.1 k = true then v else p.2) else (ks ++ [k], vs ++ [v])
theorem keyK_some {d : D} {k : Key} (h : keyK d = some k) : d = keyD k := by
  cases d <;> simp only [keyK, Option.some.injEq] at h <;> first | (subst h; rfl) | cases h
theorem eqD_key (k l : Key) : eqD (keyD k) (keyD l) = decide (k = l) := by
  cases k with
  | inl i =>
    cases l with
    | inl j => show (i == j) = _; rw [key_ll]
    | inr y => show false = _; rw [key_lr]
  | inr x =>
    cases l with
    | inl j => show false = _; rw [key_rl]
    | inr y => show (x == y) = _; rw [key_rr, Bool.beq_eq_decide_eq]
theorem keyV {K : PySem.W.Frag} {H : Hp} {v : V} {k : Key} (r : Rep K H v (keyD k)) : v = kV k := by
  cases k <;> cases r <;> rfl
theorem dget_rep {K : PySem.W.Frag} {H : Hp} {k : Key} : ∀ {kvs : List (Key × V)} {ds : List D}, RepAll K H (kvs.map (·.2)) ds →
    match dget (kvs.map fun p => keyD p.1) ds (keyD k) with
    | some d => ∃ v, valV kvs k = some v ∧ Rep K H v d
    | none => valV kvs k = none
  | [], _, h => by cases h; exact valV_nil
  | p :: r, _, h => by
    cases h with
    | cons h1 h2 =>
      rename_i d ds
      have ih := dget_rep (k := k) h2
      by_cases e : p.1 = k
      · have : dget ((p :: r).map fun p => keyD p.1) (d :: ds) (keyD k) = some d := by
          simp [dget, eqD_key, e]
        rw [this]
        exact ⟨_, valV_pos e, h1⟩
      · have : dget ((p :: r).map fun p => keyD p.1) (d :: ds) (keyD k) = dget (r.map fun p => keyD p.1) ds (keyD k) := by
          simp [dget, eqD_key, e]
        rw [this, valV_neg e]
        exact ih
theorem any_key {k : Key} : ∀ kvs : List (Key × V), ((kvs.map fun p => keyD p.1).any fun x => eqD x (keyD k)) = kvs.any fun kv => decide (kv.1 = k)
  | [] => rfl
  | p :: r => by
    simp only [List.map_cons, List.any_cons, eqD_key, any_key r]
theorem dput_rep {K : PySem.W.Frag} {H : Hp} {k : Key} {v : V} {d : D} (hv : Rep K H v d) {kvs : List (Key × V)} {ds : List D} (h : RepAll K H (kvs.map (·.2)) ds) :
    (dput (kvs.map fun p => keyD p.1) ds (keyD k) d).1 = (putK kvs k v).map (fun p => keyD p.1) ∧ RepAll K H ((putK kvs k v).map (·.2)) (dput (kvs.map fun p => keyD p.1) ds (keyD k) d).2 := by
  unfold dput putK
  rw [any_key]
  by_cases e : (kvs.any fun kv => decide (kv.1 = k)) = true
  · rw [if_pos e, if_pos e]
    refine ⟨?_, ?_⟩
    · rw [List.map_map]
      refine List.map_congr_left fun p _ => ?_
      by_cases hp : p.1 = k
      · simp [hp]
      · simp [hp]
    · have go : ∀ (kvs : List (Key × V)) (ds : List D), RepAll K H (kvs.map (·.2)) ds → RepAll K H ((kvs.map fun kv => if kv.1 = k then (kv.1, v) else kv).map (·.2)) (((kvs.map fun p => keyD p.1).zip ds).map fun p => if eqD p.1 (keyD k) = true then d else p.2) := by
        intro kvs
        induction kvs with
        | nil => intro ds h; cases h; exact .nil
        | cons p r ih =>
          intro ds h
          cases h with
          | cons h1 h2 =>
            simp only [List.map_cons, List.zip_cons_cons, eqD_key]
            refine .cons ?_ (by simpa only [eqD_key] using ih _ h2)
            by_cases hp : p.1 = k
            · simp only [hp, if_true, decide_true]; exact hv
            · simp only [hp, if_false, decide_false, Bool.false_eq_true]; exact h1
      exact go kvs ds h
  · rw [if_neg e, if_neg e]
    exact ⟨by simp, by rw [List.map_append]; exact h.append (.cons hv .nil)⟩
/-! ### reading: x[i], len(x), k in x -/
def ixC : Con → D → (D → Prop) → Prop := fun c y Q => match c with
  | .val x => match x with
    | .dct ks vs => (keyK y).isSome = true ∧ ∃ d, dget ks vs y = some d ∧ Q d
    | _ => oIx x y Q
  | .own (.lst xs) => ∃ i d, y = .int i ∧ atI xs i = some d ∧ Q d
  | .own (.dct ks vs) => (keyK y).isSome = true ∧ ∃ d, dget ks vs y = some d ∧ Q d
  | .bad => False
/-- d[k], a dict that is tracked or frozen -/
def rIxDk : R2 := fun x y H Q => ∃ p v, x = .ref p ∧ DGet H p y (some v) ∧ Q v H
theorem ix_dk (hu : X.A.units + 1 < cLine) : IxR X rIxDk := by
  intro value slice pins s σ H x y v u Q I rx ry h hs
  obtain ⟨p, z, rfl, g, q⟩ := h
  cases rx
  exact PyProof.Rows.tail_any (dict_typeIs I g) PySem.F.slot_dict_getitem.lookup (d_getItem hu I g ry fun w' s3 I3 rw' => ⟨z, H, I3, rw', q⟩) hs
def pIxK (tk : PTK) (tb : PTE) : PTE := fun S Q E => tk S (fun p S1 => tb S1 (fun y S2 => ixC (con S2 p) y fun z => Q z S2) E) E
theorem ixC_ok {K : PySem.W.Frag} {H : Hp} {v w : V} {c : Con} {y : D} {Q : VK} {Q' : D → Prop} (rc : RepC K H v c) (ry : Rep K H w y) (o : ixC c y Q') (f : Fin K H Q Q') : rIx K v w H Q ∨ rIxDk v w H Q := by
  unfold ixC at o
  split at o
  · rename_i x
    split at o
    · rename_i ks vs
      obtain ⟨hk, d, hd, o⟩ := o
      obtain ⟨k, hk⟩ := Option.isSome_iff_exists.mp hk
      have ek := keyK_some hk
      subst ek
      cases rc with
      | dct h r =>
        have g := dget_rep (k := k) r
        rw [hd] at g
        obtain ⟨z, g1, g2⟩ := g
        refine .inr ⟨_, z, rfl, ?_, f.at g2 o⟩
        rw [keyV ry]
        exact .inl ⟨_, k, .inr ⟨_, h⟩, rfl, g1.symm⟩
    · left
      unfold oIx at o
      have rc : Rep K H v x := rc
      split at o
      · cases rc with
        | tup h r =>
          cases ry
          obtain ⟨c, e, o⟩ := o
          obtain ⟨v, e1, rv⟩ := atI_rep r e
          exact .inr (.inl ⟨_, _, _, v, rfl, rfl, h, e1, f.at rv o⟩)
      · cases rc with
        | lst h r =>
          cases ry
          obtain ⟨c, e, o⟩ := o
          obtain ⟨v, e1, rv⟩ := atI_rep r e
          exact .inl ⟨_, _, _, v, rfl, rfl, h.sq, e1, f.at rv o⟩
      · cases rc; cases ry
        obtain ⟨hz, c, e, o⟩ := o
        exact .inr (.inr ⟨_, _, c, rfl, rfl, hz, e, f.at (.str _) o⟩)
      · exact o.elim
  · rename_i xs
    obtain ⟨i, d, rfl, e, o⟩ := o
    obtain ⟨a, rfl, vs, h, r⟩ := rc
    cases ry
    obtain ⟨z, e1, rz⟩ := atI_rep r e
    exact .inl (.inl ⟨_, _, _, z, rfl, rfl, .of h, e1, f.at rz o⟩)
  · rename_i ks vs
    obtain ⟨hk, d, hd, o⟩ := o
    obtain ⟨k, hk⟩ := Option.isSome_iff_exists.mp hk
    have ek := keyK_some hk
    subst ek
    obtain ⟨a, rfl, kvs, h, rfl, r⟩ := rc
    have g := dget_rep (k := k) r
    rw [hd] at g
    obtain ⟨z, g1, g2⟩ := g
    refine .inr ⟨_, z, rfl, ?_, f.at g2 o⟩
    rw [keyV ry]
    exact .inl ⟨_, k, .inl h, rfl, g1.symm⟩
  · exact o.elim
theorem pm_ixK (hu : X.A.units + 1 < cLine) (ha : PK X a tk) (hb : PM X b tb) (hpi : PlainIx b) : PM X (.Subscript a b pos) (pIxK tk tb) := fun W t => weakE (pe_ix (ix_seq.or (ix_dk hu)) (ha W t) (hb W t) hpi) fun σ H Q => by
  rintro ⟨S, Q', E', rel, q, up, ux⟩
  refine ⟨S, _, E', rel, q, fun v p H1 S1 n1 r1 p1 q1 => ?_, ux⟩
  refine ⟨S1, _, E', r1, q1, fun w y H2 S2 n2 r2 p2 q2 => ?_, ux.thn n1⟩
  exact ixC_ok (con_rep r2 (p1.nx n2)) p2 q2 (up.fin (n1.trans n2) r2)
/-- a table of the module: a dict that is written, its keys texts -/
def pTab (p : Addr) (tab : List (Str × D)) (ta tb : PTE) : PTE := pOp (fun x y Q => x = .adr p ∧ ∃ z d, y = .str z ∧ tab.lookup z = some d ∧ Q d) ta tb
theorem pm_tab {p : Addr} {tab : List (Str × D)} (ht : ∀ z d, tab.lookup z = some d → ∃ v, KDct X.K X.w p z v ∧ ∀ H, Rep X.K H v d) (ha : PM X a ta) (hb : PM X b tb) (hpi : PlainIx b) : PM X (.Subscript a b pos) (pTab p tab ta tb) :=
  pm_ix ⟨_, ix_kdict, fun H x y d e Q Q' rx ry o f => by
    obtain ⟨rfl, z, c, rfl, hl, o⟩ := o
    cases rx; cases ry
    obtain ⟨v, hv, rv⟩ := ht z c hl
    exact ⟨_, _, v, rfl, rfl, hv, f.at (rv H) o⟩⟩ ha hb hpi
/-- len(x) -/
def lenC : Con → (D → Prop) → Prop := fun c Q => match c with
  | .val x => oLen [x] Q
  | .own (.lst xs) => Q (.int xs.length)
  | .own (.dct ks vs) => Q (.int ks.length)
  | .bad => False
/-! ### changing -/
def putC (S : Sta) : Pk → Own → Sta
  | .slot i, o => ⟨S.ρ.set i (.own o), S.W⟩
  | .val (.adr a), o => ⟨S.ρ, fun b => if b = a then some o else S.W b⟩
  | .val _, _ => S
theorem Rel.mut {K : PySem.W.Frag} {H : Hp} {σ : St} {S : Sta} {p : Pk} {o : Own} {v : V} (r : Rel K H σ S) (hc : con S p = .own o) (rv : RepK K H σ v p) :
    ∃ a, v = .ref a ∧ OwnAt K H a o ∧ ∀ (o' : Own) (u : HO), (∀ H2, Step (fun b => b = a) H H2 → H2 a = some u → OwnAt K H2 a o') → Nx σ S H σ (putC S p o') (upd H a u) ∧ Rel K (upd H a u) σ (putC S p o') := by
  have stepA : ∀ {A : Addr → Prop} {a : Addr} {u : HO}, Oa σ S a → A a → Step A H (upd H a u) := fun {A a u} ho ha b w e q => by
    by_cases hb : b = a
    · subst hb
      obtain ⟨u', e', np, _⟩ := r.known ho
      rw [e] at e'; cases e'
      rcases q with q | q
      · exact absurd q np
      · exact absurd ha q
    · rw [upd_ne hb]; exact e
  have kn : ∀ {a : Addr} {u : HO} b, (upd H a u) b = none → H b = none := fun {a u} b h => by
    by_cases hb : b = a
    · subst hb; rw [upd_same] at h; cases h
    · rw [upd_ne hb] at h; exact h
  cases p with
  | slot i =>
    have hc' : (match S.ρ[i]? with | some (.own o) => Con.own o | some (.val d) => .val d | _ => .bad) = .own o := hc
    split at hc'
    · rename_i o1 es
      cases hc'
      obtain ⟨a, e1, ow⟩ := r.slot i _ es
      have rv' : σ[i]? = some (some v) := rv
      rw [rv'] at e1; cases e1
      have oi : OwnS σ S.ρ i a := ⟨⟨_, es⟩, rv'⟩
      refine ⟨a, rfl, ow, fun o' u hO => ?_⟩
      have back : ∀ j b, OwnS σ (S.ρ.set i (.own o')) j b → OwnS σ S.ρ j b := fun j b h => by
        obtain ⟨⟨o2, h1⟩, h2⟩ := h
        by_cases hj : j = i
        · subst hj; exact ⟨⟨_, es⟩, h2⟩
        · rw [List.getElem?_set_ne (Ne.symm hj)] at h1; exact ⟨⟨o2, h1⟩, h2⟩
      have sa := stepA (A := fun b => b = a) (u := u) (.inl ⟨i, oi⟩) rfl
      refine ⟨⟨stepA (.inl ⟨i, oi⟩) (.inl ⟨i, oi⟩), kn, fun x h => .inl ?_⟩, ⟨by simpa [putC] using r.len, fun j s e => ?_, fun j k b h1 h2 => r.inj j k b (back _ _ h1) (back _ _ h2), fun b o2 h => ?_, fun j b h => r.dis j b (back _ _ h)⟩⟩
      · rcases h with ⟨j, h⟩ | h
        · exact .inl ⟨j, back j x h⟩
        · exact .inr h
      · have e' : (S.ρ.set i (.own o'))[j]? = some s := e
        by_cases hj : j = i
        · subst hj
          rw [List.getElem?_set_self (List.getElem?_eq_some_iff.mp es).1] at e'
          cases e'
          exact ⟨a, rv', hO _ sa upd_same⟩
        · rw [List.getElem?_set_ne (Ne.symm hj)] at e'
          have q := r.slot j s e'
          cases s with
          | emp => trivial
          | val d => obtain ⟨w, h1, h2⟩ := q; exact ⟨w, h1, h2.step sa⟩
          | own o2 =>
            obtain ⟨b, h1, h2⟩ := q
            exact ⟨b, h1, h2.step sa fun z => hj (r.inj j i b ⟨⟨o2, e'⟩, h1⟩ (z ▸ oi))⟩
      · refine (r.wor b o2 h).step sa fun z => ?_
        have z' : b = a := z
        subst z'
        have q : S.W b = none := r.dis i b oi
        rw [show S.W b = some o2 from h] at q; cases q
    · cases hc'
    · cases hc'
  | val d =>
    cases d with
    | adr a =>
      have hc' : (match S.W a with | some o => Con.own o | none => .val (.adr a)) = .own o := hc
      cases ew : S.W a with
      | none => rw [ew] at hc'; cases hc'
      | some o1 =>
        rw [ew] at hc'; cases hc'
        cases rv
        have oa : Oa σ S a := .inr (by rw [ew]; exact fun z => nomatch z)
        refine ⟨a, rfl, r.wor a _ ew, fun o' u hO => ?_⟩
        have sa := stepA (A := fun b => b = a) (u := u) oa rfl
        have ns : ∀ j b, OwnS σ S.ρ j b → b ≠ a := fun j b h z => by
          subst z
          have q := r.dis j b h
          rw [ew] at q; cases q
        refine ⟨⟨stepA oa oa, kn, fun x h => .inl ?_⟩, ⟨r.len, fun j s e => ?_, r.inj, fun b o2 h => ?_, fun j b h => ?_⟩⟩
        · rcases h with h | h
          · exact .inl h
          · by_cases hx : x = a
            · subst hx; exact oa
            · have h' : (if x = a then some o' else S.W x) ≠ none := h
              rw [if_neg hx] at h'; exact .inr h'
        · have q := r.slot j s e
          cases s with
          | emp => trivial
          | val d => obtain ⟨w, h1, h2⟩ := q; exact ⟨w, h1, h2.step sa⟩
          | own o2 => obtain ⟨b, h1, h2⟩ := q; exact ⟨b, h1, h2.step sa (ns j b ⟨⟨o2, e⟩, h1⟩)⟩
        · have h' : (if b = a then some o' else S.W b) = some o2 := h
          by_cases hb : b = a
          · subst hb; rw [if_pos rfl] at h'; cases h'; exact hO _ sa upd_same
          · rw [if_neg hb] at h'; exact (r.wor b o2 h').step sa hb
        · show (if b = a then some o' else S.W b) = none
          rw [if_neg (ns j b h)]; exact r.dis j b h
    | _ => cases hc
/-- x.append(e) -/
def pAppend (tk : PTK) (te : PTE) : PTS := fun P S => tk S (fun p S1 => (∃ xs, con S1 p = .own (.lst xs)) ∧ te S1 (fun d S2 => ∃ xs, con S2 p = .own (.lst xs) ∧ xs.length < sizeLine ∧ P.nx (putC S2 p (.lst (xs ++ [d])))) P.ex) P.ex
theorem pms_append {st : Stmt} (h : ∀ W, Takes X W → L2.PS X st (tDrop (tBM X.K "list" rAppend (lK X W tk) (tCons (lE X W te) tNil)))) : PMS X st (pAppend tk te) := fun W t => weakS (h W t) fun D σ H => by
  rintro ⟨S, P, rel, q, up⟩
  refine ⟨S, _, _, rel, q, fun v p H1 S1 n1 r1 p1 q1 => ?_, up.ux⟩
  obtain ⟨⟨xs, hc⟩, q1⟩ := q1
  obtain ⟨a, rfl, ⟨ys, ha, _⟩, _⟩ := r1.mut hc p1
  refine ⟨.inl ⟨rfl, _, .of ha⟩, S1, _, _, r1, q1, fun w d H2 S2 n2 r2 p2 q2 => ?_, up.ux.thn n1⟩
  obtain ⟨zs, hc2, hz, q2⟩ := q2
  obtain ⟨b, eb, ⟨ws, hb, rb⟩, mt⟩ := r2.mut hc2 (p1.nx n2)
  cases eb
  refine ⟨a, ws, w, rfl, rfl, hb, by rw [rb.length]; exact hz, ?_⟩
  obtain ⟨nx, r'⟩ := mt (.lst (zs ++ [d])) (.lst (ws ++ [w])) fun H3 st h3 => ⟨_, h3, (rb.step st).append (.cons (p2.step st) .nil)⟩
  exact up.nx _ _ _ ((n1.trans n2).trans nx) r' q2
/-- x.pop() -/
def pPop (tk : PTK) : PTE := fun S Q E => tk S (fun p S1 => ∃ xs d, con S1 p = .own (.lst xs) ∧ xs[xs.length - 1]? = some d ∧ Q d (putC S1 p (.lst xs.dropLast))) E
theorem RepAll.dropLast {K : PySem.W.Frag} {H : Hp} {vs : List V} {ds : List D} (r : RepAll K H vs ds) : RepAll K H vs.dropLast ds.dropLast := by
  rw [List.dropLast_eq_take, List.dropLast_eq_take, r.length]; exact r.take _
theorem pm_pop (h : ∀ W, Takes X W → PE X e (tBM0 X.K "list" rPop (lK X W tk))) : PM X e (pPop tk) := fun W t => weakE (h W t) fun σ H Q => by
  rintro ⟨S, Q', E', rel, q, up, ux⟩
  refine ⟨S, _, _, rel, q, fun v p H1 S1 n1 r1 p1 q1 => ?_, ux⟩
  obtain ⟨xs, d, hc, hl, q1⟩ := q1
  obtain ⟨a, rfl, ⟨ys, ha, ra⟩, mt⟩ := r1.mut hc p1
  obtain ⟨y, e1, ry⟩ := ra.get hl
  refine ⟨.inl ⟨rfl, _, .of ha⟩, a, ys, y, rfl, rfl, ha, by rw [ra.length]; exact e1, ?_⟩
  have st : ∀ {u}, Step (fun b => b = a) H1 (upd H1 a u) := fun {u} b w eb z => by
    by_cases hb : b = a
    · subst hb
      rw [ha] at eb; cases eb
      rcases z with z | z
      · exact z.elim
      · exact absurd rfl z
    · rw [upd_ne hb]; exact eb
  obtain ⟨nx, r'⟩ := mt (.lst xs.dropLast) (.lst ys.dropLast) fun H3 st h3 => ⟨_, h3, (ra.step st).dropLast⟩
  exact up _ _ _ _ (n1.trans nx) r' (ry.step st) q1
/-- x[i] = e -/
def setC : Con → D → D → (Own → Prop) → Prop := fun c i d Q => match c with
  | .own (.lst xs) => ∃ k j, i = .int k ∧ ixN xs.length k = some j ∧ Q (.lst (xs.set j d))
  | .own (.dct ks vs) => (keyK i).isSome = true ∧ ks.length < sizeLine ∧ Q (.dct (dput ks vs i d).1 (dput ks vs i d).2)
  | _ => False
def rSetD : TSet := fun o i v H Q => ∃ a H', o = .ref a ∧ DPut H a i v H' ∧ Q H'
theorem set_dict (hu : X.A.units + 1 < cLine) : PSet X rSetD := by
  intro pins s σ H o i v ov iv u Q I ro ri rv h
  obtain ⟨a, H', rfl, g, q⟩ := h
  cases ro
  exact d_setItem hu I g ri rv fun s4 I4 => ⟨H', I4, q⟩
theorem set_any (hu : X.A.units + 1 < cLine) : PSet X (fun o i v H Q => rSetL o i v H Q ∨ rSetD o i v H Q) := by
  intro pins s σ H o i v ov iv u Q I ro ri rv h
  rcases h with h | h
  · exact set_list pins s σ H o i v ov iv u Q I ro ri rv h
  · exact set_dict hu pins s σ H o i v ov iv u Q I ro ri rv h
def pStore (tv : PTE) (tk : PTK) (ti : PTE) : PTS := fun P S => tv S (fun d S1 => tk S1 (fun p S2 => ti S2 (fun i S3 => setC (con S3 p) i d fun o' => P.nx (putC S3 p o')) P.ex) P.ex) P.ex
theorem pms_store {tv ti : PTE} {st : Stmt} (h : ∀ W, Takes X W → L2.PS X st (tAsg (lE X W tv) (gSub (lK X W tk) (lE X W ti) fun o i v H Q => rSetL o i v H Q ∨ rSetD o i v H Q))) : PMS X st (pStore tv tk ti) := fun W t => weakS (h W t) fun D σ H => by
  rintro ⟨S, P, rel, q, up⟩
  refine ⟨S, _, _, rel, q, fun v d H1 S1 n1 r1 p1 q1 => ?_, up.ux⟩
  refine ⟨S1, _, _, r1, q1, fun x p H2 S2 n2 r2 p2 q2 => ?_, up.ux.thn n1⟩
  refine ⟨S2, _, _, r2, q2, fun y i H3 S3 n3 r3 p3 q3 => ?_, up.ux.thn (n1.trans n2)⟩
  have rd := (p1.nx n2).nx n3
  have rp := p2.nx n3
  have nn := (n1.trans n2).trans n3
  simp only [setC] at q3
  split at q3
  · rename_i xs hc
    obtain ⟨k, j, rfl, hj, q3⟩ := q3
    obtain ⟨a, rfl, ⟨ys, ha, ra⟩, mt⟩ := r3.mut hc rp
    cases p3
    obtain ⟨nx, r'⟩ := mt (.lst (xs.set j d)) (.lst (ys.set j v)) fun H4 st h4 => ⟨_, h4, RepAll.set (rd.step st) j (ra.step st)⟩
    exact .inl ⟨a, ys, k, j, rfl, rfl, ha, by rw [ra.length]; exact hj, up.nx _ _ _ (nn.trans nx) r' q3⟩
  · rename_i ks vs hc
    obtain ⟨hk, hl, q3⟩ := q3
    obtain ⟨k, hk⟩ := Option.isSome_iff_exists.mp hk
    have ek := keyK_some hk
    subst ek
    obtain ⟨a, rfl, ⟨kvs, ha, rfl, ra⟩, mt⟩ := r3.mut hc rp
    obtain ⟨nx, r'⟩ := mt (.dct (dput (kvs.map fun p => keyD p.1) vs (keyD k) d).1 (dput (kvs.map fun p => keyD p.1) vs (keyD k) d).2) (.dK (putK kvs k v)) fun H4 st h4 =>
      ⟨_, h4, (dput_rep (rd.step st) (ra.step st)).1, (dput_rep (rd.step st) (ra.step st)).2⟩
    refine .inr ⟨a, _, rfl, ?_, up.nx _ _ _ (nn.trans nx) r' q3⟩
    rw [keyV p3]
    exact .k ha (by rw [← List.length_map (f := fun p : Key × V => keyD p.1)]; exact hl)
  · exact q3.elim
/-! ### making -/
abbrev PTO := Sta → (Own → Sta → Prop) → PX → Prop
def lF (X : Cx) (W : WX) (t : PTO) : TE := fun σ H Q => ∃ S Q' E', Rel X.K H σ S ∧ t S Q' E' ∧ (∀ a o H' S', Nx σ S H σ S' H' → Rel X.K H' σ S' → OwnAt X.K H' a o → H a = none → ¬ Oa σ S' a → Q' o S' → Q (.ref a) H') ∧ UpX X.K σ S H W E'
def PMO (X : Cx) (e : Expr) (t : PTO) : Prop := ∀ W, Takes X W → PE X e (lF X W t)
def poLst (t : PTA) : PTO := fun S Q E => t S (fun ds S1 => ds.length ≤ sizeLine ∧ Q (.lst ds) S1) E
def poDct : PTO := fun S Q _ => Q (.dct [] []) S
theorem Rel.fresh {K : PySem.W.Frag} {H : Hp} {σ : St} {S : Sta} {a : Addr} (r : Rel K H σ S) (h : H a = none) : ¬ Oa σ S a := fun z => by
  obtain ⟨u, e, _⟩ := r.known z
  rw [h] at e; cases e
theorem pmo_lst {es : List Expr} {t : PTA} (h : PMA X es t) : PMO X (.List es pos) (poLst t) := fun W tk => weakE (pe_lst (h W tk)) fun σ H Q => by
  rintro ⟨S, Q', E', rel, q, up, ux⟩
  refine ⟨S, _, E', rel, q, fun vs ds H1 S1 n1 r1 p1 q1 => ⟨by rw [p1.length]; exact q1.1, fun p hp => ?_⟩, ux⟩
  have s : Same H1 (upd H1 p (.lst vs)) := same_new hp
  exact up _ (.lst ds) _ _ (n1.trans (.same s)) (r1.same s) ⟨vs, upd_same, p1.step (A := fun _ => False) (Step.of_same s)⟩ (n1.kn p hp) (r1.fresh hp) q1.2
theorem pmo_dct : PMO X (.Dict [] [] pos) poDct := fun W tk => weakE pe_dnewK fun σ H Q => by
  rintro ⟨S, Q', E', rel, q, up, ux⟩
  intro p hp
  have s : Same H (upd H p (.dK [])) := same_new hp
  exact up _ (.dct [] []) _ _ (.same s) (rel.same s) ⟨[], upd_same, rfl, .nil⟩ hp (rel.fresh hp) q
/-- x = [..], x only this name's -/
def pSetO (i : Nat) (t : PTO) : PTS := fun P S => t S (fun o S1 => P.nx ⟨S1.ρ.set i (.own o), S1.W⟩) P.ex
theorem pms_setO {i : Nat} {t : PTO} {st : Stmt} (h : ∀ W, Takes X W → L2.PS X st (tAsg (lF X W t) (gName i))) : PMS X st (pSetO i t) := fun W tk => weakS (h W tk) fun D σ H => by
  rintro ⟨S, P, rel, q, up⟩
  refine ⟨S, _, _, rel, q, fun a o H1 S1 n1 r1 ow hn no q1 => ?_, up.ux⟩
  obtain ⟨r', oa⟩ := r1.putOwn (i := i) ow no
  refine up.nx _ _ _ ⟨n1.st, n1.kn, fun x h => ?_⟩ r' q1
  rcases oa x h with h | h
  · exact n1.oa x h
  · subst h; exact .inr hn
/-- a new own object as a value: its address -/
def updW (W : Addr → Option Own) (a : Addr) (o : Own) : Addr → Option Own := fun b => if b = a then some o else W b
def pNewW (t : PTO) : PTE := fun S Q E => t S (fun o S1 => ∀ a, S1.W a = none → Q (.adr a) ⟨S1.ρ, updW S1.W a o⟩) E
theorem pm_newW {t : PTO} (h : PMO X e t) : PM X e (pNewW t) := fun W tk => weakE (h W tk) fun σ H Q => by
  rintro ⟨S, Q', E', rel, q, up, ux⟩
  refine ⟨S, _, _, rel, q, fun a o H1 S1 n1 r1 ow hn no q1 => ?_, ux⟩
  have wn : S1.W a = none := by
    cases z : S1.W a with
    | none => rfl
    | some o => exact absurd (.inr (by rw [z]; exact fun y => nomatch y)) no
  refine up _ _ _ ⟨S1.ρ, updW S1.W a o⟩ ⟨n1.st, n1.kn, fun x h => ?_⟩ ⟨r1.len, r1.slot, r1.inj, fun b o2 h => ?_, fun j b h => ?_⟩ (.adr a) (q1 a wn)
  · rcases h with h | h
    · exact n1.oa x (.inl h)
    · by_cases hx : x = a
      · subst hx; exact .inr hn
      · have h' : (if x = a then some o else S1.W x) ≠ none := h
        rw [if_neg hx] at h'; exact n1.oa x (.inr h')
  · have h' : (if b = a then some o else S1.W b) = some o2 := h
    by_cases hb : b = a
    · subst hb; rw [if_pos rfl] at h'; cases h'; exact ow
    · rw [if_neg hb] at h'; exact r1.wor b o2 h'
  · show (if b = a then some o else S1.W b) = none
    have hb : b ≠ a := fun z => no (.inl ⟨j, z ▸ h⟩)
    rw [if_neg hb]; exact r1.dis j b h
end
end Pl
set_option Elab.async false
set_option linter.all false
set_option maxRecDepth 100000
set_option maxHeartbeats 4000000
/-! Pl, part 8: chains, calls by name, try -/
namespace Pl
open PySem PySem.Spec L2
open PyProof.Rows (envOfC)
section
variable {X : Cx} {a b c e : Expr} {ta tb tc te : PTE} {tk : PTK} {pos : Pos} {o o' : Op2}
/-- a < b < c -/
def pChain (o o' : Op2) (ta tb tc : PTE) : PTE := fun S Q E => ta S (fun x S1 => tb S1 (fun y S2 => o x y fun z => ∃ k, z = .bl k ∧ if k = true then tc S2 (fun w S3 => o' y w fun u => Q u S3) E else Q (.bl false) S2) E) E
theorem pm_chain {op op' : CmpOp} (ho : OpD X (compareOp op) o) (ho' : OpD X (compareOp op') o') (ha : PM X a ta) (hb : PM X b tb) (hc : PM X c tc) (hm : lastMarks [op, op'] [b, c] = false := by with_unfolding_all rfl) :
    PM X (.Compare a [op, op'] [b, c] pos) (pChain o o' ta tb tc) := fun W tk => by
  obtain ⟨r, hr, hl⟩ := ho
  obtain ⟨r', hr', hl'⟩ := ho'
  refine weakE (pe_chain hr hr' (ha W tk) (hb W tk) (hc W tk) hm) ?_
  rintro σ H Q ⟨S, Q', E', rel, q, up, ux⟩
  refine ⟨S, _, E', rel, q, fun v d H1 S1 n1 r1 p1 q1 => ?_, ux⟩
  refine ⟨S1, _, E', r1, q1, fun w e H2 S2 n2 r2 p2 q2 => ?_, ux.thn n1⟩
  refine hl H2 v w d e _ _ (p1.nx n2) p2 q2 fun z cz H3 s3 rz q3 => ?_
  obtain ⟨k, rfl, q3⟩ := q3
  cases rz
  refine ⟨k, rfl, ?_⟩
  have n3 : Nx σ S H σ S2 H3 := (n1.trans n2).trans (.same s3)
  cases k with
  | true =>
    refine ⟨S2, _, E', r2.same s3, q3, fun u cu H4 S4 n4 r4 p4 q4 => ?_, ux.thn n3⟩
    exact hl' H4 w u e cu Q _ ((p2.step (Step.of_same (A := fun _ => False) s3)).nx n4) p4 q4 (up.fin (n3.trans n4) r4)
  | false => exact up _ _ _ _ n3 (r2.same s3) (.bl _) q3
/-- len(x), x an own object or a value -/
def pLenK (tk : PTK) : PTE := fun S Q E => tk S (fun p S1 => lenC (con S1 p) fun z => Q z S1) E
theorem pm_lenK {p : Pos} (hg : Gl X "len") (hm : X.mg "len" = none) (ha : PK X a tk) (he : starEach [a] X.env = (false, eval a X.env) :: starEach [] X.env := by rfl) (hpl : (backTo pos (starEach [] X.env)).any (·.1) = false := by rfl) :
    PM X (.Call (.Name "len" p) [a] [] pos) (pLenK tk) := fun W t => weakE (pe_callB (CallR.or call_len_seq (CallR.or call_len_str (fun pins s σ H xs us Q I r (h : ∃ d kvs, xs = [.ref d] ∧ H d = some (.dK kvs) ∧ Q (.int kvs.length) H) => call_lenD pins s σ H xs us Q I r h))) hg hm PySem.boot_len (pa_cons (ha W t) pa_nil he) (by decide) (by decide) he hpl) fun σ H Q => by
  rintro ⟨S, Q', E', rel, q, up, ux⟩
  refine ⟨S, _, E', rel, q, fun v p H1 S1 n1 r1 p1 q1 => ?_, ux⟩
  have rc := con_rep r1 p1
  have f := up.fin n1 r1
  show _ ∨ _ ∨ _
  unfold lenC at q1
  split at q1
  · rename_i x hx
    rw [hx] at rc
    have rc : Rep X.K H1 v x := rc
    unfold oLen at q1
    split at q1
    · rename_i xs hh
      cases hh
      cases rc with
      | tup h ra => exact .inl ⟨_, _, rfl, .inr h, by rw [ra.length]; exact f.at (.int _) q1⟩
    · rename_i xs hh
      cases hh
      cases rc with
      | lst h ra => exact .inl ⟨_, _, rfl, .inl h.sq, by rw [ra.length]; exact f.at (.int _) q1⟩
    · rename_i z hh
      cases hh
      cases rc
      exact .inr (.inl ⟨_, rfl, q1.1, f.at (.int _) q1.2⟩)
    · exact q1.elim
  · rename_i xs hx
    rw [hx] at rc
    obtain ⟨a, rfl, ys, h, ra⟩ := rc
    exact .inl ⟨_, _, rfl, .inl (.of h), by rw [ra.length]; exact f.at (.int _) q1⟩
  · rename_i ks vs hx
    rw [hx] at rc
    obtain ⟨a, rfl, kvs, h, rfl, ra⟩ := rc
    rw [List.length_map] at q1
    exact .inr (.inr ⟨a, kvs, rfl, h, f.at (.int _) q1⟩)
  · exact q1.elim
end
/-! ### defs by name -/
structure TopD (K : PySem.W.Frag) (mg : Str → Option Value) (x : Str) (ps : List Str) (st : Stmt) : Prop where
  ex : ∃ f fd, Fun K x x st f fd ∧ mg x = some (.ref f) ∧ Binds K fd ps []
structure CallF (P : Program) (w : World) (K : PySem.W.Frag) (mg : Str → Option Value) (base : Heap) (x : Str) (n k : Nat) (φ : PFn) : Prop where
  ex : ∃ f fd ps, FnOk P w K mg base (L2.CX P w) k f fd ps (spP K n φ) ∧ mg x = some (.ref f) ∧ PySem.W.keepIn K (.ref f) = true ∧ Binds K fd ps []
section
variable {P : Program} {w : World} {K : PySem.W.Frag} {mg : Str → Option Value} {base : Heap}
theorem CallF.wk {x : Str} {n k : Nat} {φ ψ : PFn} (c : CallF P w K mg base x n k φ) (h : ∀ ds Wo Q E, ψ ds Wo Q E → φ ds Wo Q E) : CallF P w K mg base x n k ψ := by
  obtain ⟨f, fd, ps, F, r⟩ := c.ex
  exact ⟨f, fd, ps, FnOk.wk F h, r⟩
theorem CallF.up {x : Str} {n k j : Nat} {φ : PFn} (c : CallF P w K mg base x n k φ) (h : k ≤ j) : CallF P w K mg base x n j φ := by
  obtain ⟨f, fd, ps, F, r⟩ := c.ex
  exact ⟨f, fd, ps, F.mono h, r⟩
theorem call_of {x : Str} {st : Stmt} {N ps : List Str} {k : Nat} {φ : PFn} (T : TopD K mg x ps st) (S : FnScope N ps (defScope st))
    (hbody : ∀ (f : Addr) (cdv : Value) (A : Around) (outer : List Env) (s : Shared) (H : Hp) (E : XK), Room k (A.deeper (envOfC x (defScope st) s.heap.objs.size f cdv)) →
      ∃ t, PMSs (cxOf (L2.CX P w) P w K mg base N x (defScope st) f cdv A outer s H E) (defBody st) t ∧
        ∀ ds Wo Q E', ds.length = ps.length → φ ds Wo Q E' → t { nx := fun S => Q .non S.W, rt := fun d S => Q d S.W, ex := fun x S => E' x S.W } ⟨start0 N.length ds, Wo⟩) :
    CallF P w K mg base x ps.length (k + 1) φ := by
  obtain ⟨f, fd, F, hm, hb⟩ := T.ex
  exact ⟨f, fd, ps, ok_of F S (hbody f), hm, F.kp, hb⟩
end
section
variable {X : Cx} {n k : Nat} {φ : PFn} {x : Str} {p pos : Pos} {e : Expr} {es : List Expr} {t : PTA}
theorem pm_callF (c : CallF X.prog X.w X.K X.mg X.base x n k φ) (hr : Room k X.A) (hg : Gl X x) (ha : PMA X (e :: es) t) (hdb : (x == ("__debug__" : Str)) = false := by decide)
    (he : starEach (e :: es) X.env = (false, eval e X.env) :: starEach es X.env := by rfl) (hpl : (backTo pos (starEach es X.env)).any (·.1) = false := by rfl) : PM X (.Call (.Name x p) (e :: es) [] pos) (pCall n φ t) := by
  obtain ⟨f, fd, ps, F, hm, hk, hb⟩ := c.ex
  exact pm_call F hr hg hm hk hb ha hdb he hpl
end
/-! ### raise and try of own exception classes -/
/-- what the top says of an own exception class (without its own __init__) -/
structure ExC (K : PySem.W.Frag) (mg : Str → Option Value) (x : Str) (C : Addr) : Prop where
  gP : mg x = some (.ref C)
  xP : PySem.W.excIn K C [.type "ValueError", .type "Exception", .type "BaseException", .type "object"] "ValueError.__new__" = true
  kP : PySem.W.keepIn K (.ref C) = true
  bP : PySem.W.subIn K (.ref C) (.type "BaseException") = some true
  tP : PySem.W.typeIn K (.ref C) = some (.type "type")
section
variable {X : Cx} {C : Addr} {x m : Str} {j : Nat} {p p2 pos pos' : Pos}
/-- raise X('..') -/
theorem pms_raiseOwn (hc : X.calm = true) (T : ExC X.K X.mg x C) (hg : Gl X x) (hdb : (x == ("__debug__" : Str)) = false := by decide) : PMS X (.Raise (some (.Call (.Name x p) [.Constant (.str m) j p2] [] pos)) none pos') (pRaise ⟨.ref C, none⟩) :=
  pms_raise fun W tk => ps_raise hc tk (pmk_own PySem.F.excBase_ValueError T.xP T.gP T.kP (raises_own T.bP T.tP) hg hdb)
/-- a slot forgotten -/
theorem Rel.drop {K : PySem.W.Frag} {H : Hp} {σ : St} {S : Sta} {i : Nat} (r : Rel K H σ S) : Nx σ S H (σ.set i none) ⟨S.ρ.set i .emp, S.W⟩ H ∧ Rel K H (σ.set i none) ⟨S.ρ.set i .emp, S.W⟩ := by
  have back : ∀ j b, OwnS (σ.set i none) (S.ρ.set i .emp) j b → OwnS σ S.ρ j b := fun j b h => by
    obtain ⟨⟨o', h1⟩, h2⟩ := h
    by_cases hj : j = i
    · subst hj
      by_cases hl : j < S.ρ.length
      · rw [List.getElem?_set_self hl] at h1; cases h1
      · rw [List.getElem?_eq_none (by simpa using hl)] at h1; cases h1
    · rw [List.getElem?_set_ne (Ne.symm hj)] at h1 h2
      exact ⟨⟨o', h1⟩, h2⟩
  refine ⟨⟨Step.refl, fun _ h => h, fun x h => .inl ?_⟩, ⟨by simpa using r.len, fun j s es => ?_, fun j k b h1 h2 => r.inj j k b (back _ _ h1) (back _ _ h2), r.wor, fun j b h => r.dis j b (back _ _ h)⟩⟩
  · rcases h with ⟨j, h⟩ | h
    · exact .inl ⟨j, back j x h⟩
    · exact .inr h
  · have es' : (S.ρ.set i .emp)[j]? = some s := es
    by_cases hj : j = i
    · subst hj
      by_cases hl : j < S.ρ.length
      · rw [List.getElem?_set_self hl] at es'; cases es'; trivial
      · rw [List.getElem?_eq_none (by simpa using hl)] at es'; cases es'
    · rw [List.getElem?_set_ne (Ne.symm hj)] at es'
      have q := r.slot j s es'
      have e2 : (σ.set i none)[j]? = σ[j]? := List.getElem?_set_ne (Ne.symm hj)
      rw [e2]; exact q
/-- a suite: what is caught is x -/
def lX (X : Cx) (ts : Exn → PTS) (cls : Value) (d : Option Addr) : TS := fun D σ H => ∃ S P x, Rel X.K H σ S ∧ XR X.K H x cls d ∧ ts x P S ∧ UpD X.K σ S H (fun _ _ _ _ => False) D P
def pTry (m : Value → Bool → Prop) (tb : PTS) (ts : Exn → PTS) : PTS := fun P S => tb { P with ex := fun x S1 => ∃ b, m x.cls b ∧ (b = true → ts x { P with ex := noX } S1) ∧ (b = false → P.ex x S1) } S
def pTryAs (m : Value → Bool → Prop) (i : Nat) (tb : PTS) (ts : Addr → Exn → PTS) : PTS := fun P S => tb { P with ex := fun x S1 => ∃ b, m x.cls b ∧
  (b = true → ∀ a, ts a x { nx := fun S2 => P.nx ⟨S2.ρ.set i .emp, S2.W⟩, rt := P.rt, bk := fun S2 => P.bk ⟨S2.ρ.set i .emp, S2.W⟩, ct := fun S2 => P.ct ⟨S2.ρ.set i .emp, S2.W⟩, ex := noX } ⟨S1.ρ.set i (.val (.adr a)), S1.W⟩) ∧ (b = false → P.ex x S1) } S
variable {c : Value} {body suite : List Stmt} {b₀ : Stmt} {np : Pos} {tb : PTS} {ts : Exn → PTS} {m : Value → Bool → Prop}
theorem pms_try (hs : X.stack = X.env :: X.outer) (hf : X.env.frame = some X.env.locals) (hc : Names X x c) (hm : ∀ cls b, m cls b → PySem.W.exmOne X.K cls c = some b)
    (hb : ∀ (pn : List (Addr × Obj)) (xe : Value → Shared → Prop), PassesOwn (model X.prog X.w) X.A X.env xe → PMSs (X.tr pn xe) body tb)
    (hsu : ∀ (a : Addr) (oe : Obj) (d : Option Addr) (pn : List (Addr × Obj)) (x : Exn), Zc x.cls d oe → (∃ vs, oe.data = .fields vs) → (x.line = none → d = none) → PMSs (X.suite a ((a, oe) :: pn)) (b₀ :: suite) (ts x)) :
    PMS X (.Try body [.ExceptHandler (some (.Name x np)) none (b₀ :: suite) pos'] [] [] pos) (pTry m tb ts) := fun W tk =>
  weakS (ps_try_only (tb := fun W => lS X W tb) (ts := fun _ cls d => lX X ts cls d) hs hf hc tk (fun W pn xe t hp => hb pn xe hp W t) (fun a oe cls d pn hz hf => ⟨fun pins s σ H D I q => by
      obtain ⟨S, P, x, rel, xr, q, up⟩ := q
      have ex : x.cls = cls := xr.1
      subst ex
      refine (hsu a oe d pn x hz hf (fun e => ?_) (fun _ _ _ _ => False) takes0).run pins s σ H D I ⟨S, P, rel, q, up⟩
      have h2 := xr.2
      rw [e] at h2
      exact h2⟩)) fun D σ H => by
    rintro ⟨S, P, rel, q, up⟩
    refine ⟨S, _, rel, q, ⟨up.nx, up.rt, up.bk, up.ct, fun x cls dd σ' H' S' n r xr h => ?_⟩⟩
    obtain ⟨b, h1, h2, h3⟩ := h
    have ex : x.cls = cls := xr.1
    subst ex
    have u := up.thn n
    exact ⟨b, hm _ _ h1, fun hb a _ => ⟨S', _, x, r, xr, h2 hb, ⟨u.nx, u.rt, u.bk, u.ct, fun _ _ _ _ _ _ _ _ _ z => z.elim⟩⟩, fun hb => up.ex x _ dd σ' H' S' n r xr (h3 hb)⟩
theorem pms_tryAs {ts : Addr → Exn → PTS} {i : Nat} {nm : Str} (hs : X.stack = X.env :: X.outer) (hf : X.env.frame = some X.env.locals) (hN : X.N.Nodup) (hi : X.N[i]? = some nm) (hln : X.env.kindOf nm = some .local) (hc : Names X x c) (hm : ∀ cls b, m cls b → PySem.W.exmOne X.K cls c = some b)
    (hb : ∀ (pn : List (Addr × Obj)) (xe : Value → Shared → Prop), PassesOwn (model X.prog X.w) X.A X.env xe → PMSs (X.tr pn xe) body tb)
    (hsu : ∀ (a : Addr) (oe : Obj) (d : Option Addr) (pn : List (Addr × Obj)) (x : Exn), Zc x.cls d oe → (∃ vs, oe.data = .fields vs) → (x.line = none → d = none) → PMSs (X.suite a ((a, oe) :: pn)) (b₀ :: suite) (ts a x)) :
    PMS X (.Try body [.ExceptHandler (some (.Name x np)) (some nm) (b₀ :: suite) pos'] [] [] pos) (pTryAs m i tb ts) := fun W tk =>
  weakS (ps_try_as (tb := fun W => lS X W tb) (ts := fun a cls d => lX X (ts a) cls d) hs hf hN hi hln hc tk (fun W pn xe t hp => hb pn xe hp W t) (fun a oe cls d pn hz hf => ⟨fun pins s σ H D I q => by
      obtain ⟨S, P, x, rel, xr, q, up⟩ := q
      have ex : x.cls = cls := xr.1
      subst ex
      refine (hsu a oe d pn x hz hf (fun e => ?_) (fun _ _ _ _ => False) takes0).run pins s σ H D I ⟨S, P, rel, q, up⟩
      have h2 := xr.2
      rw [e] at h2
      exact h2⟩)) fun D σ H => by
    rintro ⟨S, P, rel, q, up⟩
    refine ⟨S, _, rel, q, ⟨up.nx, up.rt, up.bk, up.ct, fun x cls dd σ' H' S' n r xr h => ?_⟩⟩
    obtain ⟨b, h1, h2, h3⟩ := h
    have ex : x.cls = cls := xr.1
    subst ex
    refine ⟨b, hm _ _ h1, fun hb a _ => ?_, fun hb => up.ex x _ dd σ' H' S' n r xr (h3 hb)⟩
    obtain ⟨np, rp⟩ := r.put (i := i) (Rep.adr (K := X.K) (H := H') a)
    have u := up.thn (n.trans np)
    refine ⟨_, _, x, rp, xr, h2 hb a, ⟨fun σ2 H2 S2 n2 r2 q2 => ?_, u.rt, fun σ2 H2 S2 n2 r2 q2 => ?_, fun σ2 H2 S2 n2 r2 q2 => ?_, fun _ _ _ _ _ _ _ _ _ z => z.elim⟩⟩
    · obtain ⟨n3, r3⟩ := r2.drop (i := i)
      exact u.nx _ _ _ (n2.trans n3) r3 q2
    · obtain ⟨n3, r3⟩ := r2.drop (i := i)
      exact u.bk _ _ _ (n2.trans n3) r3 q2
    · obtain ⟨n3, r3⟩ := r2.drop (i := i)
      exact u.ct _ _ _ (n2.trans n3) r3 q2
/-- isinstance(e, C), e the exception of the suite -/
def oIsE (K : PySem.W.Frag) (a : Addr) (x : Exn) : OpN := fun ds Q => ∃ c D b, ds = [.adr a, .adr c] ∧ x = ⟨.ref D, none⟩ ∧ ExcC K D ∧ PySem.W.kitOne K (.ref D) (.ref c) = some b ∧ Q (.bl b)
theorem cd_isE {a : Addr} {oe : Obj} {d : Option Addr} {pn : List (Addr × Obj)} {x : Exn} (hz : Zc x.cls d oe) (hf : ∃ vs, oe.data = .fields vs) (hl : x.line = none → d = none) : CallD (X.suite a ((a, oe) :: pn)) (.builtin "isinstance") (oIsE X.K a x) := by
  refine ⟨fun xs H Q => ∃ D, ExcC X.K D ∧ x = ⟨.ref D, none⟩ ∧ rIsE X.K D a xs H Q, fun pins s σ H xs us Q I r h => ?_, fun H xs ds Q Q' r o f => ?_⟩
  · obtain ⟨D, hD, rfl, h⟩ := h
    cases hl rfl
    exact call_isE hD hz hf pins s σ H xs us Q I r h
  · obtain ⟨c, D, b, rfl, hx, hD, hk, q⟩ := o
    obtain ⟨v, w, rfl, r1, r2⟩ := rep2 r
    cases r1
    cases r2
    exact ⟨D, hD, hx, _, _, b, rfl, fun u ru => by cases ru; rfl, hk, f.at (.bl _) q⟩
end
end Pl
set_option Elab.async false
set_option linter.all false
set_option maxRecDepth 100000
set_option maxHeartbeats 4000000
/-! Pl, part 9: globals, rooms, small words -/
namespace Pl
open PySem PySem.Spec L2
open PyProof.Rows (envOfC)
/-- a module's constant: an int, a text, a table of texts -/
def GI (mg : Str → Option Value) (x : Str) (i : Int) : Prop := ∃ t, mg x = some (.int i t)
def GS (mg : Str → Option Value) (x : Str) (z : Str) : Prop := ∃ t, mg x = some (.str z t)
def GT (K : PySem.W.Frag) (w : World) (mg : Str → Option Value) (x : Str) (tab : List (Str × D)) : Prop := ∃ p, mg x = some (.ref p) ∧ ∀ z d, tab.lookup z = some d → ∃ v, KDct K w p z v ∧ ∀ H, Rep K H v d
section
variable {X : Cx} {x : Str} {pos p : Pos} {i : Int} {a b : Expr} {tb : PTE}
theorem pm_gi (h : GI X.mg x i) (hg : Gl X x) (hd : (x == ("__debug__" : Str)) = false := by decide) : PM X (.Name x pos) (pC (.int i)) := by
  obtain ⟨t, h⟩ := h
  exact pm_glob hg h (v := .int i) ⟨t, rfl⟩ (fun _ => .int i) hd
theorem pm_gs {z : Str} (h : GS X.mg x z) (hg : Gl X x) (hd : (x == ("__debug__" : Str)) = false := by decide) : PM X (.Name x pos) (pC (.str z)) := by
  obtain ⟨t, h⟩ := h
  exact pm_glob hg h (v := .str z) ⟨t, rfl⟩ (fun _ => .str z) hd
/-- an own class: a global name -/
theorem pm_gr {y : Str} {C : Addr} (h : X.mg y = some (.ref C)) (hg : Gl X y) (hd : (y == ("__debug__" : Str)) = false := by decide) : PM X (.Name y pos) (pC (.adr C)) := pm_glob hg h (v := .ref C) rfl (fun _ => .adr C) hd
/-- a builtin class as a value -/
theorem pm_ty {x : String} (hg : Gl X x) (hm : X.mg x = none) (hv : bootBuiltins x = some (.type x)) (hn : (x : Str) ≠ "__name__" := by decide) (hd : ((x : Str) == ("__debug__" : Str)) = false := by decide) : PM X (.Name x pos) (pC (.ty x)) :=
  pm_c (pe_bltn hg hm hv (v := .ty x) rfl hn hd) fun _ => .ty x
/-- TABLE[e] -/
def pTabG (tab : List (Str × D)) (tb : PTE) : PTE := fun S Q E => tb S (fun y S1 => ∃ (z : Str) (d : D), y = D.str z ∧ tab.lookup z = some d ∧ Q d S1) E
theorem pm_tabG {tab : List (Str × D)} (h : GT X.K X.w X.mg x tab) (hg : Gl X x) (hb : PM X b tb) (hpi : PlainIx b) (hd : (x == ("__debug__" : Str)) = false := by decide) : PM X (.Subscript (.Name x p) b pos) (pTabG tab tb) := by
  obtain ⟨q, hm, ht⟩ := h
  have := pm_tab ht (pm_glob (pos := p) hg hm (v := .ref q) rfl (fun _ => .adr q) hd) hb hpi (pos := pos)
  intro W tk
  refine weakE (this W tk) fun σ H Q => ?_
  rintro ⟨S, Q', E', rel, z, up, ux⟩
  refine ⟨S, Q', E', rel, ?_, up, ux⟩
  show tb S (fun y S1 => D.adr q = .adr q ∧ _) E'
  have e : (fun y S1 => D.adr q = .adr q ∧ ∃ (z : Str) (d : D), y = D.str z ∧ tab.lookup z = some d ∧ Q' d S1) = fun y S1 => ∃ (z : Str) (d : D), y = D.str z ∧ tab.lookup z = some d ∧ Q' d S1 := by
    funext y S1; simp
  rw [e]
  exact z
end
theorem Room.hu64 {k : Nat} {A : Around} (r : Room k A) : A.units + 64 < cLine := r.units
theorem Room.hu65 {k : Nat} {A : Around} (r : Room k A) : A.units + 65 < cLine := by have := r.un; omega
theorem Room.hu1 {k : Nat} {A : Around} (r : Room k A) : A.units + 1 < cLine := by have := r.un; omega
end Pl
set_option Elab.async false
set_option linter.all false
set_option maxRecDepth 100000
set_option maxHeartbeats 4000000
/-! Pl, part 10: facts about data -/
namespace Pl
open PySem PySem.Spec L2
def eqDs (xs ys : List D) : Bool := PyData.eqvAll (D.pys xs) (D.pys ys)
theorem eqD_str (a b : Str) : eqD (.str a) (.str b) = (a == b) := by simp only [eqD, D.py, PyData.eqv]
theorem eqD_int (a b : Int) : eqD (.int a) (.int b) = (a == b) := by simp only [eqD, D.py, PyData.eqv]
theorem eqD_bl (a b : Bool) : eqD (.bl a) (.bl b) = (a == b) := by simp only [eqD, D.py, PyData.eqv]
theorem eqD_non : eqD .non .non = true := by simp only [eqD, D.py, PyData.eqv]
theorem eqD_tup (a b : List D) : eqD (.tup a) (.tup b) = eqDs a b := by simp only [eqD, D.py, PyData.eqv, eqDs]
theorem eqD_lst (a b : List D) : eqD (.lst a) (.lst b) = eqDs a b := by simp only [eqD, D.py, PyData.eqv, eqDs]
theorem eqDs_nil : eqDs [] [] = true := by simp only [eqDs, D.pys, PyData.eqvAll]
theorem eqDs_cons (a b : D) (r s : List D) : eqDs (a :: r) (b :: s) = (eqD a b && eqDs r s) := by simp only [eqDs, D.pys, PyData.eqvAll, eqD]
theorem eqDs_nc (b : D) (s : List D) : eqDs [] (b :: s) = false := by simp only [eqDs, D.pys, PyData.eqvAll]
theorem eqDs_cn (b : D) (s : List D) : eqDs (b :: s) [] = false := by simp only [eqDs, D.pys, PyData.eqvAll]
theorem eqDs_nil_r (a : List D) : eqDs a [] = a.isEmpty := by cases a with
  | nil => exact eqDs_nil
  | cons b r => exact eqDs_cn b r
theorem eqDs_nil_l (a : List D) : eqDs [] a = a.isEmpty := by cases a with
  | nil => exact eqDs_nil
  | cons b r => exact eqDs_nc b r
theorem eqD_si (a : Str) (b : Int) : eqD (.str a) (.int b) = false := by simp only [eqD, D.py, PyData.eqv]
theorem eqD_is (a : Str) (b : Int) : eqD (.int b) (.str a) = false := by simp only [eqD, D.py, PyData.eqv]
theorem eqD_tl (a b : List D) : eqD (.tup a) (.lst b) = false := by simp only [eqD, D.py, PyData.eqv]
theorem eqD_lt (a b : List D) : eqD (.lst a) (.tup b) = false := by simp only [eqD, D.py, PyData.eqv]
/-- a text against anything -/
theorem eqD_x_str (x : D) (b : Str) : eqD x (.str b) = match x with
  | .str a => a == b
  | _ => false := by cases x <;> simp only [eqD, D.py, PyData.eqv]
theorem eqD_str_x (x : D) (b : Str) : eqD (.str b) x = match x with
  | .str a => b == a
  | _ => false := by cases x <;> simp only [eqD, D.py, PyData.eqv]
mutual
theorem eqD_refl : ∀ d : D, d.plain = true → eqD d d = true
  | .non, _ => eqD_non
  | .bl b, _ => by rw [eqD_bl]; simp
  | .int i, _ => by rw [eqD_int]; simp
  | .str x, _ => by rw [eqD_str]; simp
  | .tup xs, h => by rw [eqD_tup]; exact eqDs_refl xs (by simpa [D.plain] using h)
  | .lst xs, h => by rw [eqD_lst]; exact eqDs_refl xs (by simpa [D.plain] using h)
  | .dct _ _, h => by simp [D.plain] at h
  | .adr _, h => by simp [D.plain] at h
  | .ty _, h => by simp [D.plain] at h
theorem eqDs_refl : ∀ ds : List D, D.plains ds = true → eqDs ds ds = true
  | [], _ => eqDs_nil
  | d :: r, h => by
    simp only [D.plains, Bool.and_eq_true] at h
    rw [eqDs_cons, eqD_refl d h.1, eqDs_refl r h.2]; rfl
end
theorem dat_non  : D.dat  .non = true := rfl
theorem dat_bl (b : Bool) : D.dat (.bl b) = true := rfl
theorem dat_int (i : Int) : D.dat (.int i) = true := rfl
theorem dat_str (x : Str) : D.dat (.str x) = true := rfl
theorem dat_tup (xs : List D) : D.dat (.tup xs) = true := rfl
theorem dat_lst (xs : List D) : D.dat (.lst xs) = true := rfl
theorem isInt_non  : D.isInt  .non = false := rfl
theorem isInt_bl (b : Bool) : D.isInt (.bl b) = true := rfl
theorem isInt_int (i : Int) : D.isInt (.int i) = true := rfl
theorem isInt_str (x : Str) : D.isInt (.str x) = false := rfl
theorem isInt_tup (xs : List D) : D.isInt (.tup xs) = false := rfl
theorem isInt_lst (xs : List D) : D.isInt (.lst xs) = false := rfl
theorem isBool_non  : D.isBool  .non = false := rfl
theorem isBool_bl (b : Bool) : D.isBool (.bl b) = true := rfl
theorem isBool_int (i : Int) : D.isBool (.int i) = false := rfl
theorem isBool_str (x : Str) : D.isBool (.str x) = false := rfl
theorem isBool_tup (xs : List D) : D.isBool (.tup xs) = false := rfl
theorem isBool_lst (xs : List D) : D.isBool (.lst xs) = false := rfl
theorem isStr_non  : D.isStr  .non = false := rfl
theorem isStr_bl (b : Bool) : D.isStr (.bl b) = false := rfl
theorem isStr_int (i : Int) : D.isStr (.int i) = false := rfl
theorem isStr_str (x : Str) : D.isStr (.str x) = true := rfl
theorem isStr_tup (xs : List D) : D.isStr (.tup xs) = false := rfl
theorem isStr_lst (xs : List D) : D.isStr (.lst xs) = false := rfl
theorem isTup_non  : D.isTup  .non = false := rfl
theorem isTup_bl (b : Bool) : D.isTup (.bl b) = false := rfl
theorem isTup_int (i : Int) : D.isTup (.int i) = false := rfl
theorem isTup_str (x : Str) : D.isTup (.str x) = false := rfl
theorem isTup_tup (xs : List D) : D.isTup (.tup xs) = true := rfl
theorem isTup_lst (xs : List D) : D.isTup (.lst xs) = false := rfl
theorem isLst_non  : D.isLst  .non = false := rfl
theorem isLst_bl (b : Bool) : D.isLst (.bl b) = false := rfl
theorem isLst_int (i : Int) : D.isLst (.int i) = false := rfl
theorem isLst_str (x : Str) : D.isLst (.str x) = false := rfl
theorem isLst_tup (xs : List D) : D.isLst (.tup xs) = false := rfl
theorem isLst_lst (xs : List D) : D.isLst (.lst xs) = true := rfl
theorem sz_0 : (0 ≤ sizeLine) = True := eq_true (by decide)
theorem sz_1 : (1 ≤ sizeLine) = True := eq_true (by decide)
theorem sz_2 : (2 ≤ sizeLine) = True := eq_true (by decide)
theorem sz_3 : (3 ≤ sizeLine) = True := eq_true (by decide)
theorem sz_4 : (4 ≤ sizeLine) = True := eq_true (by decide)
theorem sz_5 : (5 ≤ sizeLine) = True := eq_true (by decide)
theorem sz_6 : (6 ≤ sizeLine) = True := eq_true (by decide)
theorem sz_7 : (7 ≤ sizeLine) = True := eq_true (by decide)
theorem sz_8 : (8 ≤ sizeLine) = True := eq_true (by decide)
theorem sz_9 : (9 ≤ sizeLine) = True := eq_true (by decide)
theorem sz_10 : (10 ≤ sizeLine) = True := eq_true (by decide)
theorem sz_11 : (11 ≤ sizeLine) = True := eq_true (by decide)
theorem sz_12 : (12 ≤ sizeLine) = True := eq_true (by decide)
/-! ### good data -/
theorem plains_all : ∀ xs : List D, D.plains xs = xs.all D.plain
  | [] => rfl
  | x :: r => by simp only [D.plains, List.all_cons, plains_all r]
theorem deps_mem : ∀ {xs : List D} {x : D}, x ∈ xs → x.dep ≤ D.deps xs
  | y :: r, x, h => by
    rcases List.mem_cons.mp h with rfl | h
    · simp only [D.deps]; omega
    · have := deps_mem h; simp only [D.deps]; omega
theorem deps_le : ∀ {xs : List D} {n : Nat}, (∀ x ∈ xs, x.dep ≤ n) → D.deps xs ≤ n
  | [], _, _ => Nat.zero_le _
  | y :: r, n, h => by
    have h1 := h y (List.mem_cons_self ..)
    have h2 := deps_le (xs := r) fun x hx => h x (List.mem_cons_of_mem _ hx)
    simp only [D.deps]; omega
/-- data of depth at most n -/
def D.gd (n : Nat) (d : D) : Bool := d.plain && decide (d.dep ≤ n)
theorem gd_good {n : Nat} {d : D} (h : d.gd n = true) (hn : n ≤ 60 := by decide) : d.good = true := by
  simp only [D.gd, D.good, Bool.and_eq_true, decide_eq_true_eq] at *
  exact ⟨h.1, by omega⟩
theorem gd_mono {n m : Nat} {d : D} (h : d.gd n = true) (hn : n ≤ m) : d.gd m = true := by
  simp only [D.gd, Bool.and_eq_true, decide_eq_true_eq] at *
  exact ⟨h.1, by omega⟩
theorem gd_tup {n : Nat} {xs : List D} : D.gd (n + 1) (.tup xs) = xs.all (D.gd n) := by
  rw [Bool.eq_iff_iff]
  simp only [D.gd, D.plain, D.dep, Bool.and_eq_true, decide_eq_true_eq, plains_all, List.all_eq_true]
  constructor
  · rintro ⟨h1, h2⟩ x hx
    have := deps_mem hx
    exact ⟨h1 x hx, Nat.le_trans this (Nat.le_of_succ_le_succ (of_decide_eq_true h2))⟩
  · intro h
    refine ⟨fun x hx => (h x hx).1, ?_⟩
    have := deps_le (xs := xs) (n := n) fun x hx => (h x hx).2
    exact decide_eq_true (Nat.succ_le_succ this)
theorem gd_lst {n : Nat} {xs : List D} : D.gd (n + 1) (.lst xs) = xs.all (D.gd n) := by
  have := gd_tup (n := n) (xs := xs)
  simpa [D.gd, D.plain, D.dep] using this
theorem good_tup {xs : List D} (h : D.good (.tup xs) = true) : ∀ x ∈ xs, x.good = true := fun x hx => by
  have h' : D.gd (59 + 1) (.tup xs) = true := h
  rw [gd_tup, List.all_eq_true] at h'
  exact gd_good (h' x hx)
theorem good_lst {xs : List D} (h : D.good (.lst xs) = true) : ∀ x ∈ xs, x.good = true := fun x hx => by
  have h' : D.gd (59 + 1) (.lst xs) = true := h
  rw [gd_lst, List.all_eq_true] at h'
  exact gd_good (h' x hx)
theorem good_dat {d : D} (h : d.good = true) : d.dat = true := by
  cases d <;> first | rfl | simp [D.good, D.plain] at h
theorem good_int (i : Int) : D.good (.int i) = true := rfl
theorem good_bl (i : Bool) : D.good (.bl i) = true := rfl
theorem good_non : D.good .non = true := rfl
theorem good_str {x : Str} (h : PyData.strOk x = true) : D.good (.str x) = true := by simp [D.good, D.plain, D.dep, h]
theorem str_good {x : Str} (h : D.good (.str x) = true) : PyData.strOk x = true := by simpa [D.good, D.plain, D.dep] using h
theorem good_nil : D.good (.tup []) = true := rfl
theorem good_nilL : D.good (.lst []) = true := rfl
theorem good_sub {xs ys : List D} (h : D.good (.tup xs) = true) (hs : ∀ y ∈ ys, y ∈ xs) : D.good (.tup ys) = true := by
  have h' : D.gd (59 + 1) (.tup xs) = true := h
  show D.gd (59 + 1) (.tup ys) = true
  rw [gd_tup, List.all_eq_true] at *
  exact fun y hy => h' y (hs y hy)
/-- slices -/
theorem cut_from (xs : List D) (n : Nat) (h : n ≤ xs.length) : cutD xs (some n) none = xs.drop n := by
  unfold cutD
  rw [HT.sIx_nat, HT.sIx_none, Nat.min_eq_left h]
  exact List.take_of_length_le (by rw [List.length_drop]; exact Nat.le_refl _)
theorem cut_to (xs : List D) (n : Nat) (h : n ≤ xs.length) : cutD xs none (some n) = xs.take n := by
  unfold cutD
  rw [HT.sIx_nat, HT.sIx_none, Nat.min_eq_left h, List.drop_zero, Nat.sub_zero]
theorem cut_toN (xs : List D) (n : Nat) : cutD xs none (some n) = xs.take n := by
  unfold cutD
  rw [HT.sIx_nat, HT.sIx_none, List.drop_zero, Nat.sub_zero]
  by_cases h : n ≤ xs.length
  · rw [Nat.min_eq_left h]
  · rw [Nat.min_eq_right (by omega), List.take_of_length_le (Nat.le_refl _), List.take_of_length_le (by omega)]
theorem cut_fromN (xs : List D) (n : Nat) : cutD xs (some n) none = xs.drop n := by
  by_cases h : n ≤ xs.length
  · exact cut_from xs n h
  · unfold cutD
    rw [HT.sIx_nat, HT.sIx_none, Nat.min_eq_right (by omega), List.drop_of_length_le (Nat.le_refl _), List.drop_of_length_le (by omega)]
    simp
theorem cut_to1 (xs : List D) : cutD xs none (some 1) = xs.take 1 := cut_toN xs 1
theorem cut_to2 (xs : List D) : cutD xs none (some 2) = xs.take 2 := cut_toN xs 2
theorem cut_to3 (xs : List D) : cutD xs none (some 3) = xs.take 3 := cut_toN xs 3
theorem cut_from1 (xs : List D) : cutD xs (some 1) none = xs.drop 1 := cut_fromN xs 1
theorem cut_from2 (xs : List D) : cutD xs (some 2) none = xs.drop 2 := cut_fromN xs 2
theorem cut_from3 (xs : List D) : cutD xs (some 3) none = xs.drop 3 := cut_fromN xs 3
theorem at0 (x : D) (r : List D) : atI (x :: r) 0 = some x := atI_nat (j := 0) rfl
theorem at1 (x y : D) (r : List D) : atI (x :: y :: r) 1 = some y := atI_nat (j := 1) rfl
theorem at2 (x y z : D) (r : List D) : atI (x :: y :: z :: r) 2 = some z := atI_nat (j := 2) rfl
theorem at3 (x y z u : D) (r : List D) : atI (x :: y :: z :: u :: r) 3 = some u := atI_nat (j := 3) rfl
theorem at4 (x y z u t : D) (r : List D) : atI (x :: y :: z :: u :: t :: r) 4 = some t := atI_nat (j := 4) rfl
/-- a loop that builds a list, element by element: the elements' promise gives f -/
theorem lcW_map {g : PTG} {te : PTE} {vs : List Nat} {Q : PQ} {f : D → D} {S : Sta} : ∀ (xs acc : List D), (∀ x ∈ xs, ∀ Q' : PQ, (∀ S', wipS S' vs = S → Q' (f x) S') → g x S fun S2 => te S2 Q' noX) → acc.length + xs.length ≤ sizeLine → Q (.lst (acc ++ xs.map f)) S → lcW g pYes te vs Q xs acc S
  | [], acc, _, _, q => by
    show Q (.lst acc) S
    simpa using q
  | x :: r, acc, h, hz, q => by
    simp only [List.length_cons] at hz
    have mono : ∀ {t : PTE}, True := trivial
    refine h x (List.mem_cons_self ..) (fun y S4 => acc.length < sizeLine ∧ lcW g pYes te vs Q r (acc ++ [y]) (wipS S4 vs)) fun S' e => ⟨by omega, ?_⟩
    rw [e]
    exact lcW_map r (acc ++ [f x]) (fun y hy => h y (List.mem_cons_of_mem _ hy)) (by rw [List.length_append]; simp only [List.length_singleton]; omega) (by simpa using q)
/-- nothing is promised -/
theorem call_none {P : Program} {w : World} {K : PySem.W.Frag} {mg : Str → Option Value} {base : Heap} {x : Str} {ps : List Str} {st : Stmt} {k : Nat} (T : TopD K mg x ps st) : CallF P w K mg base x ps.length k (fun _ _ _ _ => False) := by
  obtain ⟨f, fd, F, hm, hb⟩ := T.ex
  refine ⟨f, fd, ps, ⟨fun vs H Q E h => ?_, fun A outer s H args us vs Q E _ _ _ _ h => ?_⟩, hm, F.kp, hb⟩
  · obtain ⟨_, _, _, _, h, _⟩ := h; exact h
  · obtain ⟨_, _, _, _, _, _, _, h, _⟩ := h; exact h.elim
theorem wipS_mk (ρ : List Slot) (W : Addr → Option Own) (vs : List Nat) : wipS ⟨ρ, W⟩ vs = ⟨vs.foldr (fun v ρ => ρ.set v .emp) ρ, W⟩ := rfl
/-! ### readings of containers: only what is known is unfolded -/
def cGet : Option Slot → Con
  | some (.own o) => .own o
  | some (.val d) => .val d
  | _ => .bad
theorem cGet_own (o : Own) : cGet (some (.own o)) = .own o := rfl
theorem cGet_val (d : D) : cGet (some (.val d)) = .val d := rfl
theorem con_slot (ρ : List Slot) (W : Addr → Option Own) (i : Nat) : con ⟨ρ, W⟩ (.slot i) = cGet ρ[i]? := by
  unfold con cGet
  rfl
def vGet (o : Option Slot) (S : Sta) (i : Nat) (Q : PQ) : Prop := match o with
  | some (.val d) => Q d S
  | some (.own (.lst xs)) => Q (.lst xs) ⟨S.ρ.set i (.val (.lst xs)), S.W⟩
  | some (.own (.dct ks vs)) => Q (.dct ks vs) ⟨S.ρ.set i (.val (.dct ks vs)), S.W⟩
  | _ => False
theorem pVar_mk (i : Nat) (ρ : List Slot) (W : Addr → Option Own) (Q : PQ) (E : PX) : pVar i ⟨ρ, W⟩ Q E = vGet ρ[i]? ⟨ρ, W⟩ i Q := rfl
theorem vGet_val (d : D) (S : Sta) (i : Nat) (Q : PQ) : vGet (some (.val d)) S i Q = Q d S := rfl
theorem vGet_ownL (xs : List D) (ρ : List Slot) (W : Addr → Option Own) (i : Nat) (Q : PQ) : vGet (some (.own (.lst xs))) ⟨ρ, W⟩ i Q = Q (.lst xs) ⟨ρ.set i (.val (.lst xs)), W⟩ := rfl
theorem vGet_ownD (ks vs : List D) (ρ : List Slot) (W : Addr → Option Own) (i : Nat) (Q : PQ) : vGet (some (.own (.dct ks vs))) ⟨ρ, W⟩ i Q = Q (.dct ks vs) ⟨ρ.set i (.val (.dct ks vs)), W⟩ := rfl
def kGet (o : Option Slot) (S : Sta) (i : Nat) (Q : Pk → Sta → Prop) : Prop := match o with
  | some (.val d) => Q (.val d) S
  | some (.own _) => Q (.slot i) S
  | _ => False
theorem pkVar_mk (i : Nat) (ρ : List Slot) (W : Addr → Option Own) (Q : Pk → Sta → Prop) (E : PX) : pkVar i ⟨ρ, W⟩ Q E = kGet ρ[i]? ⟨ρ, W⟩ i Q := rfl
theorem kGet_val (d : D) (S : Sta) (i : Nat) (Q : Pk → Sta → Prop) : kGet (some (.val d)) S i Q = Q (.val d) S := rfl
theorem kGet_own (o : Own) (S : Sta) (i : Nat) (Q : Pk → Sta → Prop) : kGet (some (.own o)) S i Q = Q (.slot i) S := rfl
def kSet (i : Nat) (P : PEnds) : PQ := fun d S1 => P.nx ⟨S1.ρ.set i (.val d), S1.W⟩
theorem pSet_eq (i : Nat) (te : PTE) (P : PEnds) (S : Sta) : pSet i te P S = te S (kSet i P) P.ex := rfl
theorem kSet_mk (i : Nat) (P : PEnds) (d : D) (ρ : List Slot) (W : Addr → Option Own) : kSet i P d ⟨ρ, W⟩ = P.nx ⟨ρ.set i (.val d), W⟩ := rfl
theorem con_tup (S : Sta) (xs : List D) : con S (.val (.tup xs)) = .val (.tup xs) := rfl
theorem con_lst (S : Sta) (xs : List D) : con S (.val (.lst xs)) = .val (.lst xs) := rfl
theorem con_dct (S : Sta) (xs ys : List D) : con S (.val (.dct xs ys)) = .val (.dct xs ys) := rfl
theorem con_str (S : Sta) (x : Str) : con S (.val (.str x)) = .val (.str x) := rfl
theorem con_own {ρ : List Slot} {W : Addr → Option Own} {a : Addr} {o : Own} (h : W a = some o) : con ⟨ρ, W⟩ (.val (.adr a)) = .own o := by simp only [con, h]
theorem con_updW (ρ : List Slot) (W : Addr → Option Own) (a : Addr) (o : Own) : con ⟨ρ, updW W a o⟩ (.val (.adr a)) = .own o := con_own (if_pos rfl)
theorem ixC_tup (xs : List D) (y : D) (Q : D → Prop) : ixC (.val (.tup xs)) y Q = oIx (.tup xs) y Q := rfl
theorem ixC_lst (xs : List D) (y : D) (Q : D → Prop) : ixC (.val (.lst xs)) y Q = oIx (.lst xs) y Q := rfl
theorem ixC_str (x : Str) (y : D) (Q : D → Prop) : ixC (.val (.str x)) y Q = oIx (.str x) y Q := rfl
theorem ixC_dct (ks vs : List D) (y : D) (Q : D → Prop) : ixC (.val (.dct ks vs)) y Q = ((keyK y).isSome = true ∧ ∃ d, dget ks vs y = some d ∧ Q d) := rfl
theorem ixC_ownL (xs : List D) (y : D) (Q : D → Prop) : ixC (.own (.lst xs)) y Q = ∃ i d, y = .int i ∧ atI xs i = some d ∧ Q d := rfl
theorem ixC_ownD (ks vs : List D) (y : D) (Q : D → Prop) : ixC (.own (.dct ks vs)) y Q = ((keyK y).isSome = true ∧ ∃ d, dget ks vs y = some d ∧ Q d) := rfl
theorem oIx_tup (xs : List D) (i : Int) (Q : D → Prop) : oIx (.tup xs) (.int i) Q = ∃ d, atI xs i = some d ∧ Q d := rfl
theorem oIx_lst (xs : List D) (i : Int) (Q : D → Prop) : oIx (.lst xs) (.int i) Q = ∃ d, atI xs i = some d ∧ Q d := rfl
theorem oIx_str (z : Str) (i : Int) (Q : D → Prop) : oIx (.str z) (.int i) Q = (z.length ≤ sizeLine ∧ ∃ c, atI z.cps.toList i = some c ∧ Q (.str ⟨#[c]⟩)) := rfl
theorem lenC_tup (xs : List D) (Q : D → Prop) : lenC (.val (.tup xs)) Q = Q (.int xs.length) := rfl
theorem lenC_lst (xs : List D) (Q : D → Prop) : lenC (.val (.lst xs)) Q = Q (.int xs.length) := rfl
theorem lenC_str (x : Str) (Q : D → Prop) : lenC (.val (.str x)) Q = (x.length ≤ sizeLine ∧ Q (.int x.length)) := rfl
theorem lenC_ownL (xs : List D) (Q : D → Prop) : lenC (.own (.lst xs)) Q = Q (.int xs.length) := rfl
theorem lenC_ownD (xs ys : List D) (Q : D → Prop) : lenC (.own (.dct xs ys)) Q = Q (.int xs.length) := rfl
theorem setC_ownL (xs : List D) (i d : D) (Q : Own → Prop) : setC (.own (.lst xs)) i d Q = ∃ k j, i = .int k ∧ ixN xs.length k = some j ∧ Q (.lst (xs.set j d)) := rfl
theorem setC_ownD (ks vs : List D) (i d : D) (Q : Own → Prop) : setC (.own (.dct ks vs)) i d Q = ((keyK i).isSome = true ∧ ks.length < sizeLine ∧ Q (.dct (dput ks vs i d).1 (dput ks vs i d).2)) := rfl
theorem putC_slot (ρ : List Slot) (W : Addr → Option Own) (i : Nat) (o : Own) : putC ⟨ρ, W⟩ (.slot i) o = ⟨ρ.set i (.own o), W⟩ := rfl
theorem putC_adr (ρ : List Slot) (W : Addr → Option Own) (a : Addr) (o : Own) : putC ⟨ρ, W⟩ (.val (.adr a)) o = ⟨ρ, updW W a o⟩ := rfl
theorem ixN_nat {n : Nat} {j : Nat} (h : j < n) : ixN n (j : Int) = some j := by
  unfold ixN
  simp [h]
theorem Pk_val_inj {x y : D} : (Pk.val x = Pk.val y) = (x = y) := by simp
theorem Con_own_inj {x y : Own} : (Con.own x = Con.own y) = (x = y) := by simp
theorem Own_lst_inj {x y : List D} : (Own.lst x = Own.lst y) = (x = y) := by simp
theorem updW_upd (W : Addr → Option Own) (a : Addr) (o u : Own) : updW (updW W a o) a u = updW W a u := funext fun b => by
  unfold updW; split <;> rfl
theorem updW_self (W : Addr → Option Own) (a : Addr) (o : Own) : updW W a o a = some o := if_pos rfl
theorem itD_lst (xs : List D) (Q : List D → Prop) : itD (.lst xs) Q = Q xs := rfl
theorem itD_tup (xs : List D) (Q : List D → Prop) : itD (.tup xs) Q = Q xs := rfl
theorem oInt_i (C : Int → Int → Prop) (g : Int → Int → Int) (i j : Int) (Q : D → Prop) : oInt C g (.int i) (.int j) Q = (C i j ∧ Q (.int (g i j))) := rfl
theorem oCmp_i (g : Int → Int → Bool) (i j : Int) (Q : D → Prop) : oCmp g (.int i) (.int j) Q = Q (.bl (g i j)) := rfl
theorem oAdd_i (i j : Int) (Q : D → Prop) : oAdd (.int i) (.int j) Q = Q (.int (i + j)) := rfl
theorem oAdd_s (x y : Str) (Q : D → Prop) : oAdd (.str x) (.str y) Q = (x.length + y.length ≤ sizeLine ∧ Q (.str (x ++ y))) := rfl
theorem oAdd_t (xs ys : List D) (Q : D → Prop) : oAdd (.tup xs) (.tup ys) Q = (xs.length + ys.length ≤ sizeLine ∧ Q (.tup (xs ++ ys))) := rfl
theorem oAdd_l (xs ys : List D) (Q : D → Prop) : oAdd (.lst xs) (.lst ys) Q = (xs.length + ys.length ≤ sizeLine ∧ Q (.lst (xs ++ ys))) := rfl
theorem oNeg_i (i : Int) (Q : D → Prop) : oNeg (.int i) Q = Q (.int (-i)) := rfl
theorem o1I_i (g : Int → Int) (i : Int) (Q : D → Prop) : o1I g [.int i] Q = Q (.int (g i)) := rfl
theorem o2I_i (g : Int → Int → Int) (i j : Int) (Q : D → Prop) : o2I g [.int i, .int j] Q = Q (.int (g i j)) := rfl
theorem oSl_t (xs : List D) (lo hi : Option Int) (Q : D → Prop) : oSl (.tup xs) lo hi Q = Q (.tup (cutD xs lo hi)) := rfl
theorem oSl_l (xs : List D) (lo hi : Option Int) (Q : D → Prop) : oSl (.lst xs) lo hi Q = Q (.lst (cutD xs lo hi)) := rfl
theorem oList_t (xs : List D) (Q : D → Prop) : oList [.tup xs] Q = Q (.lst xs) := rfl
theorem oList_l (xs : List D) (Q : D → Prop) : oList [.lst xs] Q = Q (.lst xs) := rfl
theorem oTuple_t (xs : List D) (Q : D → Prop) : oTuple [.tup xs] Q = Q (.tup xs) := rfl
theorem oTuple_l (xs : List D) (Q : D → Prop) : oTuple [.lst xs] Q = Q (.tup xs) := rfl
theorem oIn_t (n : Bool) (x : D) (ys : List D) (Q : D → Prop) : oIn n x (.tup ys) Q = (x.good = true ∧ D.good (.tup ys) = true ∧ Q (.bl (if n then !(ys.any fun z => eqD z x) else ys.any fun z => eqD z x))) := rfl
theorem oIn_l (n : Bool) (x : D) (ys : List D) (Q : D → Prop) : oIn n x (.lst ys) Q = (x.good = true ∧ D.good (.lst ys) = true ∧ Q (.bl (if n then !(ys.any fun z => eqD z x) else ys.any fun z => eqD z x))) := rfl
theorem oIsN_n (n : Bool) (x : D) (Q : D → Prop) : oIsN n x .non Q = Q (.bl (if n then !x.isN else x.isN)) := rfl
theorem ixC_ownLi (xs : List D) (i : Int) (Q : D → Prop) : ixC (.own (.lst xs)) (.int i) Q = ∃ d, atI xs i = some d ∧ Q d := by
  apply propext
  constructor
  · rintro ⟨i, d, h, r⟩; cases h; exact ⟨d, r⟩
  · rintro ⟨d, r⟩; exact ⟨i, d, rfl, r⟩
theorem setC_ownLi (xs : List D) (i : Int) (d : D) (Q : Own → Prop) : setC (.own (.lst xs)) (.int i) d Q = ∃ j, ixN xs.length i = some j ∧ Q (.lst (xs.set j d)) := by
  apply propext
  constructor
  · rintro ⟨i, j, h, r⟩; cases h; exact ⟨j, r⟩
  · rintro ⟨j, r⟩; exact ⟨i, j, rfl, r⟩
theorem ixN20 : ixN 2 0 = some 0 := rfl
theorem ixN21 : ixN 2 1 = some 1 := rfl
theorem atI_lt {xs : List D} {z : Int} (h0 : 0 ≤ z) (h1 : z < xs.length) : ∃ x, x ∈ xs ∧ atI xs z = some x := by
  obtain ⟨j, rfl⟩ := Int.eq_ofNat_of_zero_le h0
  have h : j < xs.length := by omega
  exact ⟨xs[j], List.getElem_mem h, atI_nat (List.getElem?_eq_getElem h)⟩
def kSetO (i : Nat) (P : PEnds) : Own → Sta → Prop := fun o S1 => P.nx ⟨S1.ρ.set i (.own o), S1.W⟩
/-! ### slots by their number: no other part of a goal is looked at -/
section
variable {P : PEnds} {Q : PQ} {E : PX} {W : Addr → Option Own} {r : List Slot} {d y : D} {o u : Own} {xs ks vs : List D} {s0 s1 s2 s3 s4 s5 s6 s7 s8 s9 s10 s11 s12 s13 s14 s15 s16 s17 s18 s19 s20 s21 s22 s23 : Slot} {G : D → Prop} {U : Pk → Sta → Prop} {V : Own → Prop} {T : Sta → Prop}
theorem pVarV0 : pVar 0 ⟨.val d :: r, W⟩ Q E = Q d ⟨.val d :: r, W⟩ := rfl
theorem pVarL0 : pVar 0 ⟨.own (.lst xs) :: r, W⟩ Q E = Q (.lst xs) ⟨.val (.lst xs) :: r, W⟩ := rfl
theorem pVarD0 : pVar 0 ⟨.own (.dct ks vs) :: r, W⟩ Q E = Q (.dct ks vs) ⟨.val (.dct ks vs) :: r, W⟩ := rfl
theorem pkVarV0 : pkVar 0 ⟨.val d :: r, W⟩ U E = U (.val d) ⟨.val d :: r, W⟩ := rfl
theorem pkVarO0 : pkVar 0 ⟨.own o :: r, W⟩ U E = U (.slot 0) ⟨.own o :: r, W⟩ := rfl
theorem kSetN0 : kSet 0 P d ⟨s0 :: r, W⟩ = P.nx ⟨.val d :: r, W⟩ := rfl
theorem kSetO_N0 : kSetO 0 P o ⟨s0 :: r, W⟩ = P.nx ⟨.own o :: r, W⟩ := rfl
theorem pgNameN0 : pgName 0 d ⟨s0 :: r, W⟩ T = T ⟨.val d :: r, W⟩ := rfl
theorem ixS0 : ixC (con ⟨.own o :: r, W⟩ (.slot 0)) y G = ixC (.own o) y G := rfl
theorem lenS0 : lenC (con ⟨.own o :: r, W⟩ (.slot 0)) G = lenC (.own o) G := rfl
theorem setS0 : setC (con ⟨.own o :: r, W⟩ (.slot 0)) y d V = setC (.own o) y d V := rfl
theorem conS0 : con ⟨.own o :: r, W⟩ (.slot 0) = .own o := rfl
theorem putS0 : putC ⟨s0 :: r, W⟩ (.slot 0) u = ⟨.own u :: r, W⟩ := rfl
theorem pVarV1 : pVar 1 ⟨s0 :: .val d :: r, W⟩ Q E = Q d ⟨s0 :: .val d :: r, W⟩ := rfl
theorem pVarL1 : pVar 1 ⟨s0 :: .own (.lst xs) :: r, W⟩ Q E = Q (.lst xs) ⟨s0 :: .val (.lst xs) :: r, W⟩ := rfl
theorem pVarD1 : pVar 1 ⟨s0 :: .own (.dct ks vs) :: r, W⟩ Q E = Q (.dct ks vs) ⟨s0 :: .val (.dct ks vs) :: r, W⟩ := rfl
theorem pkVarV1 : pkVar 1 ⟨s0 :: .val d :: r, W⟩ U E = U (.val d) ⟨s0 :: .val d :: r, W⟩ := rfl
theorem pkVarO1 : pkVar 1 ⟨s0 :: .own o :: r, W⟩ U E = U (.slot 1) ⟨s0 :: .own o :: r, W⟩ := rfl
theorem kSetN1 : kSet 1 P d ⟨s0 :: s1 :: r, W⟩ = P.nx ⟨s0 :: .val d :: r, W⟩ := rfl
theorem kSetO_N1 : kSetO 1 P o ⟨s0 :: s1 :: r, W⟩ = P.nx ⟨s0 :: .own o :: r, W⟩ := rfl
theorem pgNameN1 : pgName 1 d ⟨s0 :: s1 :: r, W⟩ T = T ⟨s0 :: .val d :: r, W⟩ := rfl
theorem ixS1 : ixC (con ⟨s0 :: .own o :: r, W⟩ (.slot 1)) y G = ixC (.own o) y G := rfl
theorem lenS1 : lenC (con ⟨s0 :: .own o :: r, W⟩ (.slot 1)) G = lenC (.own o) G := rfl
theorem setS1 : setC (con ⟨s0 :: .own o :: r, W⟩ (.slot 1)) y d V = setC (.own o) y d V := rfl
theorem conS1 : con ⟨s0 :: .own o :: r, W⟩ (.slot 1) = .own o := rfl
theorem putS1 : putC ⟨s0 :: s1 :: r, W⟩ (.slot 1) u = ⟨s0 :: .own u :: r, W⟩ := rfl
theorem pVarV2 : pVar 2 ⟨s0 :: s1 :: .val d :: r, W⟩ Q E = Q d ⟨s0 :: s1 :: .val d :: r, W⟩ := rfl
theorem pVarL2 : pVar 2 ⟨s0 :: s1 :: .own (.lst xs) :: r, W⟩ Q E = Q (.lst xs) ⟨s0 :: s1 :: .val (.lst xs) :: r, W⟩ := rfl
theorem pVarD2 : pVar 2 ⟨s0 :: s1 :: .own (.dct ks vs) :: r, W⟩ Q E = Q (.dct ks vs) ⟨s0 :: s1 :: .val (.dct ks vs) :: r, W⟩ := rfl
theorem pkVarV2 : pkVar 2 ⟨s0 :: s1 :: .val d :: r, W⟩ U E = U (.val d) ⟨s0 :: s1 :: .val d :: r, W⟩ := rfl
theorem pkVarO2 : pkVar 2 ⟨s0 :: s1 :: .own o :: r, W⟩ U E = U (.slot 2) ⟨s0 :: s1 :: .own o :: r, W⟩ := rfl
theorem kSetN2 : kSet 2 P d ⟨s0 :: s1 :: s2 :: r, W⟩ = P.nx ⟨s0 :: s1 :: .val d :: r, W⟩ := rfl
theorem kSetO_N2 : kSetO 2 P o ⟨s0 :: s1 :: s2 :: r, W⟩ = P.nx ⟨s0 :: s1 :: .own o :: r, W⟩ := rfl
theorem pgNameN2 : pgName 2 d ⟨s0 :: s1 :: s2 :: r, W⟩ T = T ⟨s0 :: s1 :: .val d :: r, W⟩ := rfl
theorem ixS2 : ixC (con ⟨s0 :: s1 :: .own o :: r, W⟩ (.slot 2)) y G = ixC (.own o) y G := rfl
theorem lenS2 : lenC (con ⟨s0 :: s1 :: .own o :: r, W⟩ (.slot 2)) G = lenC (.own o) G := rfl
theorem setS2 : setC (con ⟨s0 :: s1 :: .own o :: r, W⟩ (.slot 2)) y d V = setC (.own o) y d V := rfl
theorem conS2 : con ⟨s0 :: s1 :: .own o :: r, W⟩ (.slot 2) = .own o := rfl
theorem putS2 : putC ⟨s0 :: s1 :: s2 :: r, W⟩ (.slot 2) u = ⟨s0 :: s1 :: .own u :: r, W⟩ := rfl
theorem pVarV3 : pVar 3 ⟨s0 :: s1 :: s2 :: .val d :: r, W⟩ Q E = Q d ⟨s0 :: s1 :: s2 :: .val d :: r, W⟩ := rfl
theorem pVarL3 : pVar 3 ⟨s0 :: s1 :: s2 :: .own (.lst xs) :: r, W⟩ Q E = Q (.lst xs) ⟨s0 :: s1 :: s2 :: .val (.lst xs) :: r, W⟩ := rfl
theorem pVarD3 : pVar 3 ⟨s0 :: s1 :: s2 :: .own (.dct ks vs) :: r, W⟩ Q E = Q (.dct ks vs) ⟨s0 :: s1 :: s2 :: .val (.dct ks vs) :: r, W⟩ := rfl
theorem pkVarV3 : pkVar 3 ⟨s0 :: s1 :: s2 :: .val d :: r, W⟩ U E = U (.val d) ⟨s0 :: s1 :: s2 :: .val d :: r, W⟩ := rfl
theorem pkVarO3 : pkVar 3 ⟨s0 :: s1 :: s2 :: .own o :: r, W⟩ U E = U (.slot 3) ⟨s0 :: s1 :: s2 :: .own o :: r, W⟩ := rfl
theorem kSetN3 : kSet 3 P d ⟨s0 :: s1 :: s2 :: s3 :: r, W⟩ = P.nx ⟨s0 :: s1 :: s2 :: .val d :: r, W⟩ := rfl
theorem kSetO_N3 : kSetO 3 P o ⟨s0 :: s1 :: s2 :: s3 :: r, W⟩ = P.nx ⟨s0 :: s1 :: s2 :: .own o :: r, W⟩ := rfl
theorem pgNameN3 : pgName 3 d ⟨s0 :: s1 :: s2 :: s3 :: r, W⟩ T = T ⟨s0 :: s1 :: s2 :: .val d :: r, W⟩ := rfl
theorem ixS3 : ixC (con ⟨s0 :: s1 :: s2 :: .own o :: r, W⟩ (.slot 3)) y G = ixC (.own o) y G := rfl
theorem lenS3 : lenC (con ⟨s0 :: s1 :: s2 :: .own o :: r, W⟩ (.slot 3)) G = lenC (.own o) G := rfl
theorem setS3 : setC (con ⟨s0 :: s1 :: s2 :: .own o :: r, W⟩ (.slot 3)) y d V = setC (.own o) y d V := rfl
theorem conS3 : con ⟨s0 :: s1 :: s2 :: .own o :: r, W⟩ (.slot 3) = .own o := rfl
theorem putS3 : putC ⟨s0 :: s1 :: s2 :: s3 :: r, W⟩ (.slot 3) u = ⟨s0 :: s1 :: s2 :: .own u :: r, W⟩ := rfl
theorem pVarV4 : pVar 4 ⟨s0 :: s1 :: s2 :: s3 :: .val d :: r, W⟩ Q E = Q d ⟨s0 :: s1 :: s2 :: s3 :: .val d :: r, W⟩ := rfl
theorem pVarL4 : pVar 4 ⟨s0 :: s1 :: s2 :: s3 :: .own (.lst xs) :: r, W⟩ Q E = Q (.lst xs) ⟨s0 :: s1 :: s2 :: s3 :: .val (.lst xs) :: r, W⟩ := rfl
theorem pVarD4 : pVar 4 ⟨s0 :: s1 :: s2 :: s3 :: .own (.dct ks vs) :: r, W⟩ Q E = Q (.dct ks vs) ⟨s0 :: s1 :: s2 :: s3 :: .val (.dct ks vs) :: r, W⟩ := rfl
theorem pkVarV4 : pkVar 4 ⟨s0 :: s1 :: s2 :: s3 :: .val d :: r, W⟩ U E = U (.val d) ⟨s0 :: s1 :: s2 :: s3 :: .val d :: r, W⟩ := rfl
theorem pkVarO4 : pkVar 4 ⟨s0 :: s1 :: s2 :: s3 :: .own o :: r, W⟩ U E = U (.slot 4) ⟨s0 :: s1 :: s2 :: s3 :: .own o :: r, W⟩ := rfl
theorem kSetN4 : kSet 4 P d ⟨s0 :: s1 :: s2 :: s3 :: s4 :: r, W⟩ = P.nx ⟨s0 :: s1 :: s2 :: s3 :: .val d :: r, W⟩ := rfl
theorem kSetO_N4 : kSetO 4 P o ⟨s0 :: s1 :: s2 :: s3 :: s4 :: r, W⟩ = P.nx ⟨s0 :: s1 :: s2 :: s3 :: .own o :: r, W⟩ := rfl
theorem pgNameN4 : pgName 4 d ⟨s0 :: s1 :: s2 :: s3 :: s4 :: r, W⟩ T = T ⟨s0 :: s1 :: s2 :: s3 :: .val d :: r, W⟩ := rfl
theorem ixS4 : ixC (con ⟨s0 :: s1 :: s2 :: s3 :: .own o :: r, W⟩ (.slot 4)) y G = ixC (.own o) y G := rfl
theorem lenS4 : lenC (con ⟨s0 :: s1 :: s2 :: s3 :: .own o :: r, W⟩ (.slot 4)) G = lenC (.own o) G := rfl
theorem setS4 : setC (con ⟨s0 :: s1 :: s2 :: s3 :: .own o :: r, W⟩ (.slot 4)) y d V = setC (.own o) y d V := rfl
theorem conS4 : con ⟨s0 :: s1 :: s2 :: s3 :: .own o :: r, W⟩ (.slot 4) = .own o := rfl
theorem putS4 : putC ⟨s0 :: s1 :: s2 :: s3 :: s4 :: r, W⟩ (.slot 4) u = ⟨s0 :: s1 :: s2 :: s3 :: .own u :: r, W⟩ := rfl
theorem pVarV5 : pVar 5 ⟨s0 :: s1 :: s2 :: s3 :: s4 :: .val d :: r, W⟩ Q E = Q d ⟨s0 :: s1 :: s2 :: s3 :: s4 :: .val d :: r, W⟩ := rfl
theorem pVarL5 : pVar 5 ⟨s0 :: s1 :: s2 :: s3 :: s4 :: .own (.lst xs) :: r, W⟩ Q E = Q (.lst xs) ⟨s0 :: s1 :: s2 :: s3 :: s4 :: .val (.lst xs) :: r, W⟩ := rfl
theorem pVarD5 : pVar 5 ⟨s0 :: s1 :: s2 :: s3 :: s4 :: .own (.dct ks vs) :: r, W⟩ Q E = Q (.dct ks vs) ⟨s0 :: s1 :: s2 :: s3 :: s4 :: .val (.dct ks vs) :: r, W⟩ := rfl
theorem pkVarV5 : pkVar 5 ⟨s0 :: s1 :: s2 :: s3 :: s4 :: .val d :: r, W⟩ U E = U (.val d) ⟨s0 :: s1 :: s2 :: s3 :: s4 :: .val d :: r, W⟩ := rfl
theorem pkVarO5 : pkVar 5 ⟨s0 :: s1 :: s2 :: s3 :: s4 :: .own o :: r, W⟩ U E = U (.slot 5) ⟨s0 :: s1 :: s2 :: s3 :: s4 :: .own o :: r, W⟩ := rfl
theorem kSetN5 : kSet 5 P d ⟨s0 :: s1 :: s2 :: s3 :: s4 :: s5 :: r, W⟩ = P.nx ⟨s0 :: s1 :: s2 :: s3 :: s4 :: .val d :: r, W⟩ := rfl
theorem kSetO_N5 : kSetO 5 P o ⟨s0 :: s1 :: s2 :: s3 :: s4 :: s5 :: r, W⟩ = P.nx ⟨s0 :: s1 :: s2 :: s3 :: s4 :: .own o :: r, W⟩ := rfl
theorem pgNameN5 : pgName 5 d ⟨s0 :: s1 :: s2 :: s3 :: s4 :: s5 :: r, W⟩ T = T ⟨s0 :: s1 :: s2 :: s3 :: s4 :: .val d :: r, W⟩ := rfl
theorem ixS5 : ixC (con ⟨s0 :: s1 :: s2 :: s3 :: s4 :: .own o :: r, W⟩ (.slot 5)) y G = ixC (.own o) y G := rfl
theorem lenS5 : lenC (con ⟨s0 :: s1 :: s2 :: s3 :: s4 :: .own o :: r, W⟩ (.slot 5)) G = lenC (.own o) G := rfl
theorem setS5 : setC (con ⟨s0 :: s1 :: s2 :: s3 :: s4 :: .own o :: r, W⟩ (.slot 5)) y d V = setC (.own o) y d V := rfl
theorem conS5 : con ⟨s0 :: s1 :: s2 :: s3 :: s4 :: .own o :: r, W⟩ (.slot 5) = .own o := rfl
theorem putS5 : putC ⟨s0 :: s1 :: s2 :: s3 :: s4 :: s5 :: r, W⟩ (.slot 5) u = ⟨s0 :: s1 :: s2 :: s3 :: s4 :: .own u :: r, W⟩ := rfl
theorem pVarV6 : pVar 6 ⟨s0 :: s1 :: s2 :: s3 :: s4 :: s5 :: .val d :: r, W⟩ Q E = Q d ⟨s0 :: s1 :: s2 :: s3 :: s4 :: s5 :: .val d :: r, W⟩ := rfl
theorem pVarL6 : pVar 6 ⟨s0 :: s1 :: s2 :: s3 :: s4 :: s5 :: .own (.lst xs) :: r, W⟩ Q E = Q (.lst xs) ⟨s0 :: s1 :: s2 :: s3 :: s4 :: s5 :: .val (.lst xs) :: r, W⟩ := rfl
theorem pVarD6 : pVar 6 ⟨s0 :: s1 :: s2 :: s3 :: s4 :: s5 :: .own (.dct ks vs) :: r, W⟩ Q E = Q (.dct ks vs) ⟨s0 :: s1 :: s2 :: s3 :: s4 :: s5 :: .val (.dct ks vs) :: r, W⟩ := rfl
theorem pkVarV6 : pkVar 6 ⟨s0 :: s1 :: s2 :: s3 :: s4 :: s5 :: .val d :: r, W⟩ U E = U (.val d) ⟨s0 :: s1 :: s2 :: s3 :: s4 :: s5 :: .val d :: r, W⟩ := rfl
theorem pkVarO6 : pkVar 6 ⟨s0 :: s1 :: s2 :: s3 :: s4 :: s5 :: .own o :: r, W⟩ U E = U (.slot 6) ⟨s0 :: s1 :: s2 :: s3 :: s4 :: s5 :: .own o :: r, W⟩ := rfl
theorem kSetN6 : kSet 6 P d ⟨s0 :: s1 :: s2 :: s3 :: s4 :: s5 :: s6 :: r, W⟩ = P.nx ⟨s0 :: s1 :: s2 :: s3 :: s4 :: s5 :: .val d :: r, W⟩ := rfl
theorem kSetO_N6 : kSetO 6 P o ⟨s0 :: s1 :: s2 :: s3 :: s4 :: s5 :: s6 :: r, W⟩ = P.nx ⟨s0 :: s1 :: s2 :: s3 :: s4 :: s5 :: .own o :: r, W⟩ := rfl
theorem pgNameN6 : pgName 6 d ⟨s0 :: s1 :: s2 :: s3 :: s4 :: s5 :: s6 :: r, W⟩ T = T ⟨s0 :: s1 :: s2 :: s3 :: s4 :: s5 :: .val d :: r, W⟩ := rfl
theorem ixS6 : ixC (con ⟨s0 :: s1 :: s2 :: s3 :: s4 :: s5 :: .own o :: r, W⟩ (.slot 6)) y G = ixC (.own o) y G := rfl
theorem lenS6 : lenC (con ⟨s0 :: s1 :: s2 :: s3 :: s4 :: s5 :: .own o :: r, W⟩ (.slot 6)) G = lenC (.own o) G := rfl
theorem setS6 : setC (con ⟨s0 :: s1 :: s2 :: s3 :: s4 :: s5 :: .own o :: r, W⟩ (.slot 6)) y d V = setC (.own o) y d V := rfl
theorem conS6 : con ⟨s0 :: s1 :: s2 :: s3 :: s4 :: s5 :: .own o :: r, W⟩ (.slot 6) = .own o := rfl
theorem putS6 : putC ⟨s0 :: s1 :: s2 :: s3 :: s4 :: s5 :: s6 :: r, W⟩ (.slot 6) u = ⟨s0 :: s1 :: s2 :: s3 :: s4 :: s5 :: .own u :: r, W⟩ := rfl
theorem pVarV7 : pVar 7 ⟨s0 :: s1 :: s2 :: s3 :: s4 :: s5 :: s6 :: .val d :: r, W⟩ Q E = Q d ⟨s0 :: s1 :: s2 :: s3 :: s4 :: s5 :: s6 :: .val d :: r, W⟩ := rfl
theorem pVarL7 : pVar 7 ⟨s0 :: s1 :: s2 :: s3 :: s4 :: s5 :: s6 :: .own (.lst xs) :: r, W⟩ Q E = Q (.lst xs) ⟨s0 :: s1 :: s2 :: s3 :: s4 :: s5 :: s6 :: .val (.lst xs) :: r, W⟩ := rfl
theorem pVarD7 : pVar 7 ⟨s0 :: s1 :: s2 :: s3 :: s4 :: s5 :: s6 :: .own (.dct ks vs) :: r, W⟩ Q E = Q (.dct ks vs) ⟨s0 :: s1 :: s2 :: s3 :: s4 :: s5 :: s6 :: .val (.dct ks vs) :: r, W⟩ := rfl
theorem pkVarV7 : pkVar 7 ⟨s0 :: s1 :: s2 :: s3 :: s4 :: s5 :: s6 :: .val d :: r, W⟩ U E = U (.val d) ⟨s0 :: s1 :: s2 :: s3 :: s4 :: s5 :: s6 :: .val d :: r, W⟩ := rfl
theorem pkVarO7 : pkVar 7 ⟨s0 :: s1 :: s2 :: s3 :: s4 :: s5 :: s6 :: .own o :: r, W⟩ U E = U (.slot 7) ⟨s0 :: s1 :: s2 :: s3 :: s4 :: s5 :: s6 :: .own o :: r, W⟩ := rfl
theorem kSetN7 : kSet 7 P d ⟨s0 :: s1 :: s2 :: s3 :: s4 :: s5 :: s6 :: s7 :: r, W⟩ = P.nx ⟨s0 :: s1 :: s2 :: s3 :: s4 :: s5 :: s6 :: .val d :: r, W⟩ := rfl
theorem kSetO_N7 : kSetO 7 P o ⟨s0 :: s1 :: s2 :: s3 :: s4 :: s5 :: s6 :: s7 :: r, W⟩ = P.nx ⟨s0 :: s1 :: s2 :: s3 :: s4 :: s5 :: s6 :: .own o :: r, W⟩ := rfl
theorem pgNameN7 : pgName 7 d ⟨s0 :: s1 :: s2 :: s3 :: s4 :: s5 :: s6 :: s7 :: r, W⟩ T = T ⟨s0 :: s1 :: s2 :: s3 :: s4 :: s5 :: s6 :: .val d :: r, W⟩ := rfl
theorem ixS7 : ixC (con ⟨s0 :: s1 :: s2 :: s3 :: s4 :: s5 :: s6 :: .own o :: r, W⟩ (.slot 7)) y G = ixC (.own o) y G := rfl
theorem lenS7 : lenC (con ⟨s0 :: s1 :: s2 :: s3 :: s4 :: s5 :: s6 :: .own o :: r, W⟩ (.slot 7)) G = lenC (.own o) G := rfl
theorem setS7 : setC (con ⟨s0 :: s1 :: s2 :: s3 :: s4 :: s5 :: s6 :: .own o :: r, W⟩ (.slot 7)) y d V = setC (.own o) y d V := rfl
theorem conS7 : con ⟨s0 :: s1 :: s2 :: s3 :: s4 :: s5 :: s6 :: .own o :: r, W⟩ (.slot 7) = .own o := rfl
theorem putS7 : putC ⟨s0 :: s1 :: s2 :: s3 :: s4 :: s5 :: s6 :: s7 :: r, W⟩ (.slot 7) u = ⟨s0 :: s1 :: s2 :: s3 :: s4 :: s5 :: s6 :: .own u :: r, W⟩ := rfl
theorem pVarV8 : pVar 8 ⟨s0 :: s1 :: s2 :: s3 :: s4 :: s5 :: s6 :: s7 :: .val d :: r, W⟩ Q E = Q d ⟨s0 :: s1 :: s2 :: s3 :: s4 :: s5 :: s6 :: s7 :: .val d :: r, W⟩ := rfl
theorem pVarL8 : pVar 8 ⟨s0 :: s1 :: s2 :: s3 :: s4 :: s5 :: s6 :: s7 :: .own (.lst xs) :: r, W⟩ Q E = Q (.lst xs) ⟨s0 :: s1 :: s2 :: s3 :: s4 :: s5 :: s6 :: s7 :: .val (.lst xs) :: r, W⟩ := rfl
theorem pVarD8 : pVar 8 ⟨s0 :: s1 :: s2 :: s3 :: s4 :: s5 :: s6 :: s7 :: .own (.dct ks vs) :: r, W⟩ Q E = Q (.dct ks vs) ⟨s0 :: s1 :: s2 :: s3 :: s4 :: s5 :: s6 :: s7 :: .val (.dct ks vs) :: r, W⟩ := rfl
theorem pkVarV8 : pkVar 8 ⟨s0 :: s1 :: s2 :: s3 :: s4 :: s5 :: s6 :: s7 :: .val d :: r, W⟩ U E = U (.val d) ⟨s0 :: s1 :: s2 :: s3 :: s4 :: s5 :: s6 :: s7 :: .val d :: r, W⟩ := rfl
theorem pkVarO8 : pkVar 8 ⟨s0 :: s1 :: s2 :: s3 :: s4 :: s5 :: s6 :: s7 :: .own o :: r, W⟩ U E = U (.slot 8) ⟨s0 :: s1 :: s2 :: s3 :: s4 :: s5 :: s6 :: s7 :: .own o :: r, W⟩ := rfl
theorem kSetN8 : kSet 8 P d ⟨s0 :: s1 :: s2 :: s3 :: s4 :: s5 :: s6 :: s7 :: s8 :: r, W⟩ = P.nx ⟨s0 :: s1 :: s2 :: s3 :: s4 :: s5 :: s6 :: s7 :: .val d :: r, W⟩ := rfl
theorem kSetO_N8 : kSetO 8 P o ⟨s0 :: s1 :: s2 :: s3 :: s4 :: s5 :: s6 :: s7 :: s8 :: r, W⟩ = P.nx ⟨s0 :: s1 :: s2 :: s3 :: s4 :: s5 :: s6 :: s7 :: .own o :: r, W⟩ := rfl
theorem pgNameN8 : pgName 8 d ⟨s0 :: s1 :: s2 :: s3 :: s4 :: s5 :: s6 :: s7 :: s8 :: r, W⟩ T = T ⟨s0 :: s1 :: s2 :: s3 :: s4 :: s5 :: s6 :: s7 :: .val d :: r, W⟩ := rfl
theorem ixS8 : ixC (con ⟨s0 :: s1 :: s2 :: s3 :: s4 :: s5 :: s6 :: s7 :: .own o :: r, W⟩ (.slot 8)) y G = ixC (.own o) y G := rfl
theorem lenS8 : lenC (con ⟨s0 :: s1 :: s2 :: s3 :: s4 :: s5 :: s6 :: s7 :: .own o :: r, W⟩ (.slot 8)) G = lenC (.own o) G := rfl
theorem setS8 : setC (con ⟨s0 :: s1 :: s2 :: s3 :: s4 :: s5 :: s6 :: s7 :: .own o :: r, W⟩ (.slot 8)) y d V = setC (.own o) y d V := rfl
theorem conS8 : con ⟨s0 :: s1 :: s2 :: s3 :: s4 :: s5 :: s6 :: s7 :: .own o :: r, W⟩ (.slot 8) = .own o := rfl
theorem putS8 : putC ⟨s0 :: s1 :: s2 :: s3 :: s4 :: s5 :: s6 :: s7 :: s8 :: r, W⟩ (.slot 8) u = ⟨s0 :: s1 :: s2 :: s3 :: s4 :: s5 :: s6 :: s7 :: .own u :: r, W⟩ := rfl
theorem pVarV9 : pVar 9 ⟨s0 :: s1 :: s2 :: s3 :: s4 :: s5 :: s6 :: s7 :: s8 :: .val d :: r, W⟩ Q E = Q d ⟨s0 :: s1 :: s2 :: s3 :: s4 :: s5 :: s6 :: s7 :: s8 :: .val d :: r, W⟩ := rfl
theorem pVarL9 : pVar 9 ⟨s0 :: s1 :: s2 :: s3 :: s4 :: s5 :: s6 :: s7 :: s8 :: .own (.lst xs) :: r, W⟩ Q E = Q (.lst xs) ⟨s0 :: s1 :: s2 :: s3 :: s4 :: s5 :: s6 :: s7 :: s8 :: .val (.lst xs) :: r, W⟩ := rfl
theorem pVarD9 : pVar 9 ⟨s0 :: s1 :: s2 :: s3 :: s4 :: s5 :: s6 :: s7 :: s8 :: .own (.dct ks vs) :: r, W⟩ Q E = Q (.dct ks vs) ⟨s0 :: s1 :: s2 :: s3 :: s4 :: s5 :: s6 :: s7 :: s8 :: .val (.dct ks vs) :: r, W⟩ := rfl
theorem pkVarV9 : pkVar 9 ⟨s0 :: s1 :: s2 :: s3 :: s4 :: s5 :: s6 :: s7 :: s8 :: .val d :: r, W⟩ U E = U (.val d) ⟨s0 :: s1 :: s2 :: s3 :: s4 :: s5 :: s6 :: s7 :: s8 :: .val d :: r, W⟩ := rfl
theorem pkVarO9 : pkVar 9 ⟨s0 :: s1 :: s2 :: s3 :: s4 :: s5 :: s6 :: s7 :: s8 :: .own o :: r, W⟩ U E = U (.slot 9) ⟨s0 :: s1 :: s2 :: s3 :: s4 :: s5 :: s6 :: s7 :: s8 :: .own o :: r, W⟩ := rfl
theorem kSetN9 : kSet 9 P d ⟨s0 :: s1 :: s2 :: s3 :: s4 :: s5 :: s6 :: s7 :: s8 :: s9 :: r, W⟩ = P.nx ⟨s0 :: s1 :: s2 :: s3 :: s4 :: s5 :: s6 :: s7 :: s8 :: .val d :: r, W⟩ := rfl
theorem kSetO_N9 : kSetO 9 P o ⟨s0 :: s1 :: s2 :: s3 :: s4 :: s5 :: s6 :: s7 :: s8 :: s9 :: r, W⟩ = P.nx ⟨s0 :: s1 :: s2 :: s3 :: s4 :: s5 :: s6 :: s7 :: s8 :: .own o :: r, W⟩ := rfl
theorem pgNameN9 : pgName 9 d ⟨s0 :: s1 :: s2 :: s3 :: s4 :: s5 :: s6 :: s7 :: s8 :: s9 :: r, W⟩ T = T ⟨s0 :: s1 :: s2 :: s3 :: s4 :: s5 :: s6 :: s7 :: s8 :: .val d :: r, W⟩ := rfl
theorem ixS9 : ixC (con ⟨s0 :: s1 :: s2 :: s3 :: s4 :: s5 :: s6 :: s7 :: s8 :: .own o :: r, W⟩ (.slot 9)) y G = ixC (.own o) y G := rfl
theorem lenS9 : lenC (con ⟨s0 :: s1 :: s2 :: s3 :: s4 :: s5 :: s6 :: s7 :: s8 :: .own o :: r, W⟩ (.slot 9)) G = lenC (.own o) G := rfl
theorem setS9 : setC (con ⟨s0 :: s1 :: s2 :: s3 :: s4 :: s5 :: s6 :: s7 :: s8 :: .own o :: r, W⟩ (.slot 9)) y d V = setC (.own o) y d V := rfl
theorem conS9 : con ⟨s0 :: s1 :: s2 :: s3 :: s4 :: s5 :: s6 :: s7 :: s8 :: .own o :: r, W⟩ (.slot 9) = .own o := rfl
theorem putS9 : putC ⟨s0 :: s1 :: s2 :: s3 :: s4 :: s5 :: s6 :: s7 :: s8 :: s9 :: r, W⟩ (.slot 9) u = ⟨s0 :: s1 :: s2 :: s3 :: s4 :: s5 :: s6 :: s7 :: s8 :: .own u :: r, W⟩ := rfl
theorem pVarV10 : pVar 10 ⟨s0 :: s1 :: s2 :: s3 :: s4 :: s5 :: s6 :: s7 :: s8 :: s9 :: .val d :: r, W⟩ Q E = Q d ⟨s0 :: s1 :: s2 :: s3 :: s4 :: s5 :: s6 :: s7 :: s8 :: s9 :: .val d :: r, W⟩ := rfl
theorem pVarL10 : pVar 10 ⟨s0 :: s1 :: s2 :: s3 :: s4 :: s5 :: s6 :: s7 :: s8 :: s9 :: .own (.lst xs) :: r, W⟩ Q E = Q (.lst xs) ⟨s0 :: s1 :: s2 :: s3 :: s4 :: s5 :: s6 :: s7 :: s8 :: s9 :: .val (.lst xs) :: r, W⟩ := rfl
theorem pVarD10 : pVar 10 ⟨s0 :: s1 :: s2 :: s3 :: s4 :: s5 :: s6 :: s7 :: s8 :: s9 :: .own (.dct ks vs) :: r, W⟩ Q E = Q (.dct ks vs) ⟨s0 :: s1 :: s2 :: s3 :: s4 :: s5 :: s6 :: s7 :: s8 :: s9 :: .val (.dct ks vs) :: r, W⟩ := rfl
theorem pkVarV10 : pkVar 10 ⟨s0 :: s1 :: s2 :: s3 :: s4 :: s5 :: s6 :: s7 :: s8 :: s9 :: .val d :: r, W⟩ U E = U (.val d) ⟨s0 :: s1 :: s2 :: s3 :: s4 :: s5 :: s6 :: s7 :: s8 :: s9 :: .val d :: r, W⟩ := rfl
theorem pkVarO10 : pkVar 10 ⟨s0 :: s1 :: s2 :: s3 :: s4 :: s5 :: s6 :: s7 :: s8 :: s9 :: .own o :: r, W⟩ U E = U (.slot 10) ⟨s0 :: s1 :: s2 :: s3 :: s4 :: s5 :: s6 :: s7 :: s8 :: s9 :: .own o :: r, W⟩ := rfl
theorem kSetN10 : kSet 10 P d ⟨s0 :: s1 :: s2 :: s3 :: s4 :: s5 :: s6 :: s7 :: s8 :: s9 :: s10 :: r, W⟩ = P.nx ⟨s0 :: s1 :: s2 :: s3 :: s4 :: s5 :: s6 :: s7 :: s8 :: s9 :: .val d :: r, W⟩ := rfl
theorem kSetO_N10 : kSetO 10 P o ⟨s0 :: s1 :: s2 :: s3 :: s4 :: s5 :: s6 :: s7 :: s8 :: s9 :: s10 :: r, W⟩ = P.nx ⟨s0 :: s1 :: s2 :: s3 :: s4 :: s5 :: s6 :: s7 :: s8 :: s9 :: .own o :: r, W⟩ := rfl
theorem pgNameN10 : pgName 10 d ⟨s0 :: s1 :: s2 :: s3 :: s4 :: s5 :: s6 :: s7 :: s8 :: s9 :: s10 :: r, W⟩ T = T ⟨s0 :: s1 :: s2 :: s3 :: s4 :: s5 :: s6 :: s7 :: s8 :: s9 :: .val d :: r, W⟩ := rfl
theorem ixS10 : ixC (con ⟨s0 :: s1 :: s2 :: s3 :: s4 :: s5 :: s6 :: s7 :: s8 :: s9 :: .own o :: r, W⟩ (.slot 10)) y G = ixC (.own o) y G := rfl
theorem lenS10 : lenC (con ⟨s0 :: s1 :: s2 :: s3 :: s4 :: s5 :: s6 :: s7 :: s8 :: s9 :: .own o :: r, W⟩ (.slot 10)) G = lenC (.own o) G := rfl
theorem setS10 : setC (con ⟨s0 :: s1 :: s2 :: s3 :: s4 :: s5 :: s6 :: s7 :: s8 :: s9 :: .own o :: r, W⟩ (.slot 10)) y d V = setC (.own o) y d V := rfl
theorem conS10 : con ⟨s0 :: s1 :: s2 :: s3 :: s4 :: s5 :: s6 :: s7 :: s8 :: s9 :: .own o :: r, W⟩ (.slot 10) = .own o := rfl
theorem putS10 : putC ⟨s0 :: s1 :: s2 :: s3 :: s4 :: s5 :: s6 :: s7 :: s8 :: s9 :: s10 :: r, W⟩ (.slot 10) u = ⟨s0 :: s1 :: s2 :: s3 :: s4 :: s5 :: s6 :: s7 :: s8 :: s9 :: .own u :: r, W⟩ := rfl
theorem pVarV11 : pVar 11 ⟨s0 :: s1 :: s2 :: s3 :: s4 :: s5 :: s6 :: s7 :: s8 :: s9 :: s10 :: .val d :: r, W⟩ Q E = Q d ⟨s0 :: s1 :: s2 :: s3 :: s4 :: s5 :: s6 :: s7 :: s8 :: s9 :: s10 :: .val d :: r, W⟩ := rfl
theorem pVarL11 : pVar 11 ⟨s0 :: s1 :: s2 :: s3 :: s4 :: s5 :: s6 :: s7 :: s8 :: s9 :: s10 :: .own (.lst xs) :: r, W⟩ Q E = Q (.lst xs) ⟨s0 :: s1 :: s2 :: s3 :: s4 :: s5 :: s6 :: s7 :: s8 :: s9 :: s10 :: .val (.lst xs) :: r, W⟩ := rfl
theorem pVarD11 : pVar 11 ⟨s0 :: s1 :: s2 :: s3 :: s4 :: s5 :: s6 :: s7 :: s8 :: s9 :: s10 :: .own (.dct ks vs) :: r, W⟩ Q E = Q (.dct ks vs) ⟨s0 :: s1 :: s2 :: s3 :: s4 :: s5 :: s6 :: s7 :: s8 :: s9 :: s10 :: .val (.dct ks vs) :: r, W⟩ := rfl
theorem pkVarV11 : pkVar 11 ⟨s0 :: s1 :: s2 :: s3 :: s4 :: s5 :: s6 :: s7 :: s8 :: s9 :: s10 :: .val d :: r, W⟩ U E = U (.val d) ⟨s0 :: s1 :: s2 :: s3 :: s4 :: s5 :: s6 :: s7 :: s8 :: s9 :: s10 :: .val d :: r, W⟩ := rfl
theorem pkVarO11 : pkVar 11 ⟨s0 :: s1 :: s2 :: s3 :: s4 :: s5 :: s6 :: s7 :: s8 :: s9 :: s10 :: .own o :: r, W⟩ U E = U (.slot 11) ⟨s0 :: s1 :: s2 :: s3 :: s4 :: s5 :: s6 :: s7 :: s8 :: s9 :: s10 :: .own o :: r, W⟩ := rfl
theorem kSetN11 : kSet 11 P d ⟨s0 :: s1 :: s2 :: s3 :: s4 :: s5 :: s6 :: s7 :: s8 :: s9 :: s10 :: s11 :: r, W⟩ = P.nx ⟨s0 :: s1 :: s2 :: s3 :: s4 :: s5 :: s6 :: s7 :: s8 :: s9 :: s10 :: .val d :: r, W⟩ := rfl
theorem kSetO_N11 : kSetO 11 P o ⟨s0 :: s1 :: s2 :: s3 :: s4 :: s5 :: s6 :: s7 :: s8 :: s9 :: s10 :: s11 :: r, W⟩ = P.nx ⟨s0 :: s1 :: s2 :: s3 :: s4 :: s5 :: s6 :: s7 :: s8 :: s9 :: s10 :: .own o :: r, W⟩ := rfl
theorem pgNameN11 : pgName 11 d ⟨s0 :: s1 :: s2 :: s3 :: s4 :: s5 :: s6 :: s7 :: s8 :: s9 :: s10 :: s11 :: r, W⟩ T = T ⟨s0 :: s1 :: s2 :: s3 :: s4 :: s5 :: s6 :: s7 :: s8 :: s9 :: s10 :: .val d :: r, W⟩ := rfl
theorem ixS11 : ixC (con ⟨s0 :: s1 :: s2 :: s3 :: s4 :: s5 :: s6 :: s7 :: s8 :: s9 :: s10 :: .own o :: r, W⟩ (.slot 11)) y G = ixC (.own o) y G := rfl
theorem lenS11 : lenC (con ⟨s0 :: s1 :: s2 :: s3 :: s4 :: s5 :: s6 :: s7 :: s8 :: s9 :: s10 :: .own o :: r, W⟩ (.slot 11)) G = lenC (.own o) G := rfl
theorem setS11 : setC (con ⟨s0 :: s1 :: s2 :: s3 :: s4 :: s5 :: s6 :: s7 :: s8 :: s9 :: s10 :: .own o :: r, W⟩ (.slot 11)) y d V = setC (.own o) y d V := rfl
theorem conS11 : con ⟨s0 :: s1 :: s2 :: s3 :: s4 :: s5 :: s6 :: s7 :: s8 :: s9 :: s10 :: .own o :: r, W⟩ (.slot 11) = .own o := rfl
theorem putS11 : putC ⟨s0 :: s1 :: s2 :: s3 :: s4 :: s5 :: s6 :: s7 :: s8 :: s9 :: s10 :: s11 :: r, W⟩ (.slot 11) u = ⟨s0 :: s1 :: s2 :: s3 :: s4 :: s5 :: s6 :: s7 :: s8 :: s9 :: s10 :: .own u :: r, W⟩ := rfl
theorem pVarV12 : pVar 12 ⟨s0 :: s1 :: s2 :: s3 :: s4 :: s5 :: s6 :: s7 :: s8 :: s9 :: s10 :: s11 :: .val d :: r, W⟩ Q E = Q d ⟨s0 :: s1 :: s2 :: s3 :: s4 :: s5 :: s6 :: s7 :: s8 :: s9 :: s10 :: s11 :: .val d :: r, W⟩ := rfl
theorem pVarL12 : pVar 12 ⟨s0 :: s1 :: s2 :: s3 :: s4 :: s5 :: s6 :: s7 :: s8 :: s9 :: s10 :: s11 :: .own (.lst xs) :: r, W⟩ Q E = Q (.lst xs) ⟨s0 :: s1 :: s2 :: s3 :: s4 :: s5 :: s6 :: s7 :: s8 :: s9 :: s10 :: s11 :: .val (.lst xs) :: r, W⟩ := rfl
theorem pVarD12 : pVar 12 ⟨s0 :: s1 :: s2 :: s3 :: s4 :: s5 :: s6 :: s7 :: s8 :: s9 :: s10 :: s11 :: .own (.dct ks vs) :: r, W⟩ Q E = Q (.dct ks vs) ⟨s0 :: s1 :: s2 :: s3 :: s4 :: s5 :: s6 :: s7 :: s8 :: s9 :: s10 :: s11 :: .val (.dct ks vs) :: r, W⟩ := rfl
theorem pkVarV12 : pkVar 12 ⟨s0 :: s1 :: s2 :: s3 :: s4 :: s5 :: s6 :: s7 :: s8 :: s9 :: s10 :: s11 :: .val d :: r, W⟩ U E = U (.val d) ⟨s0 :: s1 :: s2 :: s3 :: s4 :: s5 :: s6 :: s7 :: s8 :: s9 :: s10 :: s11 :: .val d :: r, W⟩ := rfl
theorem pkVarO12 : pkVar 12 ⟨s0 :: s1 :: s2 :: s3 :: s4 :: s5 :: s6 :: s7 :: s8 :: s9 :: s10 :: s11 :: .own o :: r, W⟩ U E = U (.slot 12) ⟨s0 :: s1 :: s2 :: s3 :: s4 :: s5 :: s6 :: s7 :: s8 :: s9 :: s10 :: s11 :: .own o :: r, W⟩ := rfl
theorem kSetN12 : kSet 12 P d ⟨s0 :: s1 :: s2 :: s3 :: s4 :: s5 :: s6 :: s7 :: s8 :: s9 :: s10 :: s11 :: s12 :: r, W⟩ = P.nx ⟨s0 :: s1 :: s2 :: s3 :: s4 :: s5 :: s6 :: s7 :: s8 :: s9 :: s10 :: s11 :: .val d :: r, W⟩ := rfl
theorem kSetO_N12 : kSetO 12 P o ⟨s0 :: s1 :: s2 :: s3 :: s4 :: s5 :: s6 :: s7 :: s8 :: s9 :: s10 :: s11 :: s12 :: r, W⟩ = P.nx ⟨s0 :: s1 :: s2 :: s3 :: s4 :: s5 :: s6 :: s7 :: s8 :: s9 :: s10 :: s11 :: .own o :: r, W⟩ := rfl
theorem pgNameN12 : pgName 12 d ⟨s0 :: s1 :: s2 :: s3 :: s4 :: s5 :: s6 :: s7 :: s8 :: s9 :: s10 :: s11 :: s12 :: r, W⟩ T = T ⟨s0 :: s1 :: s2 :: s3 :: s4 :: s5 :: s6 :: s7 :: s8 :: s9 :: s10 :: s11 :: .val d :: r, W⟩ := rfl
theorem ixS12 : ixC (con ⟨s0 :: s1 :: s2 :: s3 :: s4 :: s5 :: s6 :: s7 :: s8 :: s9 :: s10 :: s11 :: .own o :: r, W⟩ (.slot 12)) y G = ixC (.own o) y G := rfl
theorem lenS12 : lenC (con ⟨s0 :: s1 :: s2 :: s3 :: s4 :: s5 :: s6 :: s7 :: s8 :: s9 :: s10 :: s11 :: .own o :: r, W⟩ (.slot 12)) G = lenC (.own o) G := rfl
theorem setS12 : setC (con ⟨s0 :: s1 :: s2 :: s3 :: s4 :: s5 :: s6 :: s7 :: s8 :: s9 :: s10 :: s11 :: .own o :: r, W⟩ (.slot 12)) y d V = setC (.own o) y d V := rfl
theorem conS12 : con ⟨s0 :: s1 :: s2 :: s3 :: s4 :: s5 :: s6 :: s7 :: s8 :: s9 :: s10 :: s11 :: .own o :: r, W⟩ (.slot 12) = .own o := rfl
theorem putS12 : putC ⟨s0 :: s1 :: s2 :: s3 :: s4 :: s5 :: s6 :: s7 :: s8 :: s9 :: s10 :: s11 :: s12 :: r, W⟩ (.slot 12) u = ⟨s0 :: s1 :: s2 :: s3 :: s4 :: s5 :: s6 :: s7 :: s8 :: s9 :: s10 :: s11 :: .own u :: r, W⟩ := rfl
theorem pVarV13 : pVar 13 ⟨s0 :: s1 :: s2 :: s3 :: s4 :: s5 :: s6 :: s7 :: s8 :: s9 :: s10 :: s11 :: s12 :: .val d :: r, W⟩ Q E = Q d ⟨s0 :: s1 :: s2 :: s3 :: s4 :: s5 :: s6 :: s7 :: s8 :: s9 :: s10 :: s11 :: s12 :: .val d :: r, W⟩ := rfl
theorem pVarL13 : pVar 13 ⟨s0 :: s1 :: s2 :: s3 :: s4 :: s5 :: s6 :: s7 :: s8 :: s9 :: s10 :: s11 :: s12 :: .own (.lst xs) :: r, W⟩ Q E = Q (.lst xs) ⟨s0 :: s1 :: s2 :: s3 :: s4 :: s5 :: s6 :: s7 :: s8 :: s9 :: s10 :: s11 :: s12 :: .val (.lst xs) :: r, W⟩ := rfl
theorem pVarD13 : pVar 13 ⟨s0 :: s1 :: s2 :: s3 :: s4 :: s5 :: s6 :: s7 :: s8 :: s9 :: s10 :: s11 :: s12 :: .own (.dct ks vs) :: r, W⟩ Q E = Q (.dct ks vs) ⟨s0 :: s1 :: s2 :: s3 :: s4 :: s5 :: s6 :: s7 :: s8 :: s9 :: s10 :: s11 :: s12 :: .val (.dct ks vs) :: r, W⟩ := rfl
theorem pkVarV13 : pkVar 13 ⟨s0 :: s1 :: s2 :: s3 :: s4 :: s5 :: s6 :: s7 :: s8 :: s9 :: s10 :: s11 :: s12 :: .val d :: r, W⟩ U E = U (.val d) ⟨s0 :: s1 :: s2 :: s3 :: s4 :: s5 :: s6 :: s7 :: s8 :: s9 :: s10 :: s11 :: s12 :: .val d :: r, W⟩ := rfl
theorem pkVarO13 : pkVar 13 ⟨s0 :: s1 :: s2 :: s3 :: s4 :: s5 :: s6 :: s7 :: s8 :: s9 :: s10 :: s11 :: s12 :: .own o :: r, W⟩ U E = U (.slot 13) ⟨s0 :: s1 :: s2 :: s3 :: s4 :: s5 :: s6 :: s7 :: s8 :: s9 :: s10 :: s11 :: s12 :: .own o :: r, W⟩ := rfl
theorem kSetN13 : kSet 13 P d ⟨s0 :: s1 :: s2 :: s3 :: s4 :: s5 :: s6 :: s7 :: s8 :: s9 :: s10 :: s11 :: s12 :: s13 :: r, W⟩ = P.nx ⟨s0 :: s1 :: s2 :: s3 :: s4 :: s5 :: s6 :: s7 :: s8 :: s9 :: s10 :: s11 :: s12 :: .val d :: r, W⟩ := rfl
theorem kSetO_N13 : kSetO 13 P o ⟨s0 :: s1 :: s2 :: s3 :: s4 :: s5 :: s6 :: s7 :: s8 :: s9 :: s10 :: s11 :: s12 :: s13 :: r, W⟩ = P.nx ⟨s0 :: s1 :: s2 :: s3 :: s4 :: s5 :: s6 :: s7 :: s8 :: s9 :: s10 :: s11 :: s12 :: .own o :: r, W⟩ := rfl
theorem pgNameN13 : pgName 13 d ⟨s0 :: s1 :: s2 :: s3 :: s4 :: s5 :: s6 :: s7 :: s8 :: s9 :: s10 :: s11 :: s12 :: s13 :: r, W⟩ T = T ⟨s0 :: s1 :: s2 :: s3 :: s4 :: s5 :: s6 :: s7 :: s8 :: s9 :: s10 :: s11 :: s12 :: .val d :: r, W⟩ := rfl
theorem ixS13 : ixC (con ⟨s0 :: s1 :: s2 :: s3 :: s4 :: s5 :: s6 :: s7 :: s8 :: s9 :: s10 :: s11 :: s12 :: .own o :: r, W⟩ (.slot 13)) y G = ixC (.own o) y G := rfl
theorem lenS13 : lenC (con ⟨s0 :: s1 :: s2 :: s3 :: s4 :: s5 :: s6 :: s7 :: s8 :: s9 :: s10 :: s11 :: s12 :: .own o :: r, W⟩ (.slot 13)) G = lenC (.own o) G := rfl
theorem setS13 : setC (con ⟨s0 :: s1 :: s2 :: s3 :: s4 :: s5 :: s6 :: s7 :: s8 :: s9 :: s10 :: s11 :: s12 :: .own o :: r, W⟩ (.slot 13)) y d V = setC (.own o) y d V := rfl
theorem conS13 : con ⟨s0 :: s1 :: s2 :: s3 :: s4 :: s5 :: s6 :: s7 :: s8 :: s9 :: s10 :: s11 :: s12 :: .own o :: r, W⟩ (.slot 13) = .own o := rfl
theorem putS13 : putC ⟨s0 :: s1 :: s2 :: s3 :: s4 :: s5 :: s6 :: s7 :: s8 :: s9 :: s10 :: s11 :: s12 :: s13 :: r, W⟩ (.slot 13) u = ⟨s0 :: s1 :: s2 :: s3 :: s4 :: s5 :: s6 :: s7 :: s8 :: s9 :: s10 :: s11 :: s12 :: .own u :: r, W⟩ := rfl
theorem pVarV14 : pVar 14 ⟨s0 :: s1 :: s2 :: s3 :: s4 :: s5 :: s6 :: s7 :: s8 :: s9 :: s10 :: s11 :: s12 :: s13 :: .val d :: r, W⟩ Q E = Q d ⟨s0 :: s1 :: s2 :: s3 :: s4 :: s5 :: s6 :: s7 :: s8 :: s9 :: s10 :: s11 :: s12 :: s13 :: .val d :: r, W⟩ := rfl
theorem pVarL14 : pVar 14 ⟨s0 :: s1 :: s2 :: s3 :: s4 :: s5 :: s6 :: s7 :: s8 :: s9 :: s10 :: s11 :: s12 :: s13 :: .own (.lst xs) :: r, W⟩ Q E = Q (.lst xs) ⟨s0 :: s1 :: s2 :: s3 :: s4 :: s5 :: s6 :: s7 :: s8 :: s9 :: s10 :: s11 :: s12 :: s13 :: .val (.lst xs) :: r, W⟩ := rfl
theorem pVarD14 : pVar 14 ⟨s0 :: s1 :: s2 :: s3 :: s4 :: s5 :: s6 :: s7 :: s8 :: s9 :: s10 :: s11 :: s12 :: s13 :: .own (.dct ks vs) :: r, W⟩ Q E = Q (.dct ks vs) ⟨s0 :: s1 :: s2 :: s3 :: s4 :: s5 :: s6 :: s7 :: s8 :: s9 :: s10 :: s11 :: s12 :: s13 :: .val (.dct ks vs) :: r, W⟩ := rfl
theorem pkVarV14 : pkVar 14 ⟨s0 :: s1 :: s2 :: s3 :: s4 :: s5 :: s6 :: s7 :: s8 :: s9 :: s10 :: s11 :: s12 :: s13 :: .val d :: r, W⟩ U E = U (.val d) ⟨s0 :: s1 :: s2 :: s3 :: s4 :: s5 :: s6 :: s7 :: s8 :: s9 :: s10 :: s11 :: s12 :: s13 :: .val d :: r, W⟩ := rfl
theorem pkVarO14 : pkVar 14 ⟨s0 :: s1 :: s2 :: s3 :: s4 :: s5 :: s6 :: s7 :: s8 :: s9 :: s10 :: s11 :: s12 :: s13 :: .own o :: r, W⟩ U E = U (.slot 14) ⟨s0 :: s1 :: s2 :: s3 :: s4 :: s5 :: s6 :: s7 :: s8 :: s9 :: s10 :: s11 :: s12 :: s13 :: .own o :: r, W⟩ := rfl
theorem kSetN14 : kSet 14 P d ⟨s0 :: s1 :: s2 :: s3 :: s4 :: s5 :: s6 :: s7 :: s8 :: s9 :: s10 :: s11 :: s12 :: s13 :: s14 :: r, W⟩ = P.nx ⟨s0 :: s1 :: s2 :: s3 :: s4 :: s5 :: s6 :: s7 :: s8 :: s9 :: s10 :: s11 :: s12 :: s13 :: .val d :: r, W⟩ := rfl
theorem kSetO_N14 : kSetO 14 P o ⟨s0 :: s1 :: s2 :: s3 :: s4 :: s5 :: s6 :: s7 :: s8 :: s9 :: s10 :: s11 :: s12 :: s13 :: s14 :: r, W⟩ = P.nx ⟨s0 :: s1 :: s2 :: s3 :: s4 :: s5 :: s6 :: s7 :: s8 :: s9 :: s10 :: s11 :: s12 :: s13 :: .own o :: r, W⟩ := rfl
theorem pgNameN14 : pgName 14 d ⟨s0 :: s1 :: s2 :: s3 :: s4 :: s5 :: s6 :: s7 :: s8 :: s9 :: s10 :: s11 :: s12 :: s13 :: s14 :: r, W⟩ T = T ⟨s0 :: s1 :: s2 :: s3 :: s4 :: s5 :: s6 :: s7 :: s8 :: s9 :: s10 :: s11 :: s12 :: s13 :: .val d :: r, W⟩ := rfl
theorem ixS14 : ixC (con ⟨s0 :: s1 :: s2 :: s3 :: s4 :: s5 :: s6 :: s7 :: s8 :: s9 :: s10 :: s11 :: s12 :: s13 :: .own o :: r, W⟩ (.slot 14)) y G = ixC (.own o) y G := rfl
theorem lenS14 : lenC (con ⟨s0 :: s1 :: s2 :: s3 :: s4 :: s5 :: s6 :: s7 :: s8 :: s9 :: s10 :: s11 :: s12 :: s13 :: .own o :: r, W⟩ (.slot 14)) G = lenC (.own o) G := rfl
theorem setS14 : setC (con ⟨s0 :: s1 :: s2 :: s3 :: s4 :: s5 :: s6 :: s7 :: s8 :: s9 :: s10 :: s11 :: s12 :: s13 :: .own o :: r, W⟩ (.slot 14)) y d V = setC (.own o) y d V := rfl
theorem conS14 : con ⟨s0 :: s1 :: s2 :: s3 :: s4 :: s5 :: s6 :: s7 :: s8 :: s9 :: s10 :: s11 :: s12 :: s13 :: .own o :: r, W⟩ (.slot 14) = .own o := rfl
theorem putS14 : putC ⟨s0 :: s1 :: s2 :: s3 :: s4 :: s5 :: s6 :: s7 :: s8 :: s9 :: s10 :: s11 :: s12 :: s13 :: s14 :: r, W⟩ (.slot 14) u = ⟨s0 :: s1 :: s2 :: s3 :: s4 :: s5 :: s6 :: s7 :: s8 :: s9 :: s10 :: s11 :: s12 :: s13 :: .own u :: r, W⟩ := rfl
theorem pVarV15 : pVar 15 ⟨s0 :: s1 :: s2 :: s3 :: s4 :: s5 :: s6 :: s7 :: s8 :: s9 :: s10 :: s11 :: s12 :: s13 :: s14 :: .val d :: r, W⟩ Q E = Q d ⟨s0 :: s1 :: s2 :: s3 :: s4 :: s5 :: s6 :: s7 :: s8 :: s9 :: s10 :: s11 :: s12 :: s13 :: s14 :: .val d :: r, W⟩ := rfl
theorem pVarL15 : pVar 15 ⟨s0 :: s1 :: s2 :: s3 :: s4 :: s5 :: s6 :: s7 :: s8 :: s9 :: s10 :: s11 :: s12 :: s13 :: s14 :: .own (.lst xs) :: r, W⟩ Q E = Q (.lst xs) ⟨s0 :: s1 :: s2 :: s3 :: s4 :: s5 :: s6 :: s7 :: s8 :: s9 :: s10 :: s11 :: s12 :: s13 :: s14 :: .val (.lst xs) :: r, W⟩ := rfl
theorem pVarD15 : pVar 15 ⟨s0 :: s1 :: s2 :: s3 :: s4 :: s5 :: s6 :: s7 :: s8 :: s9 :: s10 :: s11 :: s12 :: s13 :: s14 :: .own (.dct ks vs) :: r, W⟩ Q E = Q (.dct ks vs) ⟨s0 :: s1 :: s2 :: s3 :: s4 :: s5 :: s6 :: s7 :: s8 :: s9 :: s10 :: s11 :: s12 :: s13 :: s14 :: .val (.dct ks vs) :: r, W⟩ := rfl
theorem pkVarV15 : pkVar 15 ⟨s0 :: s1 :: s2 :: s3 :: s4 :: s5 :: s6 :: s7 :: s8 :: s9 :: s10 :: s11 :: s12 :: s13 :: s14 :: .val d :: r, W⟩ U E = U (.val d) ⟨s0 :: s1 :: s2 :: s3 :: s4 :: s5 :: s6 :: s7 :: s8 :: s9 :: s10 :: s11 :: s12 :: s13 :: s14 :: .val d :: r, W⟩ := rfl
theorem pkVarO15 : pkVar 15 ⟨s0 :: s1 :: s2 :: s3 :: s4 :: s5 :: s6 :: s7 :: s8 :: s9 :: s10 :: s11 :: s12 :: s13 :: s14 :: .own o :: r, W⟩ U E = U (.slot 15) ⟨s0 :: s1 :: s2 :: s3 :: s4 :: s5 :: s6 :: s7 :: s8 :: s9 :: s10 :: s11 :: s12 :: s13 :: s14 :: .own o :: r, W⟩ := rfl
theorem kSetN15 : kSet 15 P d ⟨s0 :: s1 :: s2 :: s3 :: s4 :: s5 :: s6 :: s7 :: s8 :: s9 :: s10 :: s11 :: s12 :: s13 :: s14 :: s15 :: r, W⟩ = P.nx ⟨s0 :: s1 :: s2 :: s3 :: s4 :: s5 :: s6 :: s7 :: s8 :: s9 :: s10 :: s11 :: s12 :: s13 :: s14 :: .val d :: r, W⟩ := rfl
theorem kSetO_N15 : kSetO 15 P o ⟨s0 :: s1 :: s2 :: s3 :: s4 :: s5 :: s6 :: s7 :: s8 :: s9 :: s10 :: s11 :: s12 :: s13 :: s14 :: s15 :: r, W⟩ = P.nx ⟨s0 :: s1 :: s2 :: s3 :: s4 :: s5 :: s6 :: s7 :: s8 :: s9 :: s10 :: s11 :: s12 :: s13 :: s14 :: .own o :: r, W⟩ := rfl
theorem pgNameN15 : pgName 15 d ⟨s0 :: s1 :: s2 :: s3 :: s4 :: s5 :: s6 :: s7 :: s8 :: s9 :: s10 :: s11 :: s12 :: s13 :: s14 :: s15 :: r, W⟩ T = T ⟨s0 :: s1 :: s2 :: s3 :: s4 :: s5 :: s6 :: s7 :: s8 :: s9 :: s10 :: s11 :: s12 :: s13 :: s14 :: .val d :: r, W⟩ := rfl
theorem ixS15 : ixC (con ⟨s0 :: s1 :: s2 :: s3 :: s4 :: s5 :: s6 :: s7 :: s8 :: s9 :: s10 :: s11 :: s12 :: s13 :: s14 :: .own o :: r, W⟩ (.slot 15)) y G = ixC (.own o) y G := rfl
theorem lenS15 : lenC (con ⟨s0 :: s1 :: s2 :: s3 :: s4 :: s5 :: s6 :: s7 :: s8 :: s9 :: s10 :: s11 :: s12 :: s13 :: s14 :: .own o :: r, W⟩ (.slot 15)) G = lenC (.own o) G := rfl
theorem setS15 : setC (con ⟨s0 :: s1 :: s2 :: s3 :: s4 :: s5 :: s6 :: s7 :: s8 :: s9 :: s10 :: s11 :: s12 :: s13 :: s14 :: .own o :: r, W⟩ (.slot 15)) y d V = setC (.own o) y d V := rfl
theorem conS15 : con ⟨s0 :: s1 :: s2 :: s3 :: s4 :: s5 :: s6 :: s7 :: s8 :: s9 :: s10 :: s11 :: s12 :: s13 :: s14 :: .own o :: r, W⟩ (.slot 15) = .own o := rfl
theorem putS15 : putC ⟨s0 :: s1 :: s2 :: s3 :: s4 :: s5 :: s6 :: s7 :: s8 :: s9 :: s10 :: s11 :: s12 :: s13 :: s14 :: s15 :: r, W⟩ (.slot 15) u = ⟨s0 :: s1 :: s2 :: s3 :: s4 :: s5 :: s6 :: s7 :: s8 :: s9 :: s10 :: s11 :: s12 :: s13 :: s14 :: .own u :: r, W⟩ := rfl
theorem pVarV16 : pVar 16 ⟨s0 :: s1 :: s2 :: s3 :: s4 :: s5 :: s6 :: s7 :: s8 :: s9 :: s10 :: s11 :: s12 :: s13 :: s14 :: s15 :: .val d :: r, W⟩ Q E = Q d ⟨s0 :: s1 :: s2 :: s3 :: s4 :: s5 :: s6 :: s7 :: s8 :: s9 :: s10 :: s11 :: s12 :: s13 :: s14 :: s15 :: .val d :: r, W⟩ := rfl
theorem pVarL16 : pVar 16 ⟨s0 :: s1 :: s2 :: s3 :: s4 :: s5 :: s6 :: s7 :: s8 :: s9 :: s10 :: s11 :: s12 :: s13 :: s14 :: s15 :: .own (.lst xs) :: r, W⟩ Q E = Q (.lst xs) ⟨s0 :: s1 :: s2 :: s3 :: s4 :: s5 :: s6 :: s7 :: s8 :: s9 :: s10 :: s11 :: s12 :: s13 :: s14 :: s15 :: .val (.lst xs) :: r, W⟩ := rfl
theorem pVarD16 : pVar 16 ⟨s0 :: s1 :: s2 :: s3 :: s4 :: s5 :: s6 :: s7 :: s8 :: s9 :: s10 :: s11 :: s12 :: s13 :: s14 :: s15 :: .own (.dct ks vs) :: r, W⟩ Q E = Q (.dct ks vs) ⟨s0 :: s1 :: s2 :: s3 :: s4 :: s5 :: s6 :: s7 :: s8 :: s9 :: s10 :: s11 :: s12 :: s13 :: s14 :: s15 :: .val (.dct ks vs) :: r, W⟩ := rfl
theorem pkVarV16 : pkVar 16 ⟨s0 :: s1 :: s2 :: s3 :: s4 :: s5 :: s6 :: s7 :: s8 :: s9 :: s10 :: s11 :: s12 :: s13 :: s14 :: s15 :: .val d :: r, W⟩ U E = U (.val d) ⟨s0 :: s1 :: s2 :: s3 :: s4 :: s5 :: s6 :: s7 :: s8 :: s9 :: s10 :: s11 :: s12 :: s13 :: s14 :: s15 :: .val d :: r, W⟩ := rfl
theorem pkVarO16 : pkVar 16 ⟨s0 :: s1 :: s2 :: s3 :: s4 :: s5 :: s6 :: s7 :: s8 :: s9 :: s10 :: s11 :: s12 :: s13 :: s14 :: s15 :: .own o :: r, W⟩ U E = U (.slot 16) ⟨s0 :: s1 :: s2 :: s3 :: s4 :: s5 :: s6 :: s7 :: s8 :: s9 :: s10 :: s11 :: s12 :: s13 :: s14 :: s15 :: .own o :: r, W⟩ := rfl
theorem kSetN16 : kSet 16 P d ⟨s0 :: s1 :: s2 :: s3 :: s4 :: s5 :: s6 :: s7 :: s8 :: s9 :: s10 :: s11 :: s12 :: s13 :: s14 :: s15 :: s16 :: r, W⟩ = P.nx ⟨s0 :: s1 :: s2 :: s3 :: s4 :: s5 :: s6 :: s7 :: s8 :: s9 :: s10 :: s11 :: s12 :: s13 :: s14 :: s15 :: .val d :: r, W⟩ := rfl
theorem kSetO_N16 : kSetO 16 P o ⟨s0 :: s1 :: s2 :: s3 :: s4 :: s5 :: s6 :: s7 :: s8 :: s9 :: s10 :: s11 :: s12 :: s13 :: s14 :: s15 :: s16 :: r, W⟩ = P.nx ⟨s0 :: s1 :: s2 :: s3 :: s4 :: s5 :: s6 :: s7 :: s8 :: s9 :: s10 :: s11 :: s12 :: s13 :: s14 :: s15 :: .own o :: r, W⟩ := rfl
theorem pgNameN16 : pgName 16 d ⟨s0 :: s1 :: s2 :: s3 :: s4 :: s5 :: s6 :: s7 :: s8 :: s9 :: s10 :: s11 :: s12 :: s13 :: s14 :: s15 :: s16 :: r, W⟩ T = T ⟨s0 :: s1 :: s2 :: s3 :: s4 :: s5 :: s6 :: s7 :: s8 :: s9 :: s10 :: s11 :: s12 :: s13 :: s14 :: s15 :: .val d :: r, W⟩ := rfl
theorem ixS16 : ixC (con ⟨s0 :: s1 :: s2 :: s3 :: s4 :: s5 :: s6 :: s7 :: s8 :: s9 :: s10 :: s11 :: s12 :: s13 :: s14 :: s15 :: .own o :: r, W⟩ (.slot 16)) y G = ixC (.own o) y G := rfl
theorem lenS16 : lenC (con ⟨s0 :: s1 :: s2 :: s3 :: s4 :: s5 :: s6 :: s7 :: s8 :: s9 :: s10 :: s11 :: s12 :: s13 :: s14 :: s15 :: .own o :: r, W⟩ (.slot 16)) G = lenC (.own o) G := rfl
theorem setS16 : setC (con ⟨s0 :: s1 :: s2 :: s3 :: s4 :: s5 :: s6 :: s7 :: s8 :: s9 :: s10 :: s11 :: s12 :: s13 :: s14 :: s15 :: .own o :: r, W⟩ (.slot 16)) y d V = setC (.own o) y d V := rfl
theorem conS16 : con ⟨s0 :: s1 :: s2 :: s3 :: s4 :: s5 :: s6 :: s7 :: s8 :: s9 :: s10 :: s11 :: s12 :: s13 :: s14 :: s15 :: .own o :: r, W⟩ (.slot 16) = .own o := rfl
theorem putS16 : putC ⟨s0 :: s1 :: s2 :: s3 :: s4 :: s5 :: s6 :: s7 :: s8 :: s9 :: s10 :: s11 :: s12 :: s13 :: s14 :: s15 :: s16 :: r, W⟩ (.slot 16) u = ⟨s0 :: s1 :: s2 :: s3 :: s4 :: s5 :: s6 :: s7 :: s8 :: s9 :: s10 :: s11 :: s12 :: s13 :: s14 :: s15 :: .own u :: r, W⟩ := rfl
theorem pVarV17 : pVar 17 ⟨s0 :: s1 :: s2 :: s3 :: s4 :: s5 :: s6 :: s7 :: s8 :: s9 :: s10 :: s11 :: s12 :: s13 :: s14 :: s15 :: s16 :: .val d :: r, W⟩ Q E = Q d ⟨s0 :: s1 :: s2 :: s3 :: s4 :: s5 :: s6 :: s7 :: s8 :: s9 :: s10 :: s11 :: s12 :: s13 :: s14 :: s15 :: s16 :: .val d :: r, W⟩ := rfl
theorem pVarL17 : pVar 17 ⟨s0 :: s1 :: s2 :: s3 :: s4 :: s5 :: s6 :: s7 :: s8 :: s9 :: s10 :: s11 :: s12 :: s13 :: s14 :: s15 :: s16 :: .own (.lst xs) :: r, W⟩ Q E = Q (.lst xs) ⟨s0 :: s1 :: s2 :: s3 :: s4 :: s5 :: s6 :: s7 :: s8 :: s9 :: s10 :: s11 :: s12 :: s13 :: s14 :: s15 :: s16 :: .val (.lst xs) :: r, W⟩ := rfl
theorem pVarD17 : pVar 17 ⟨s0 :: s1 :: s2 :: s3 :: s4 :: s5 :: s6 :: s7 :: s8 :: s9 :: s10 :: s11 :: s12 :: s13 :: s14 :: s15 :: s16 :: .own (.dct ks vs) :: r, W⟩ Q E = Q (.dct ks vs) ⟨s0 :: s1 :: s2 :: s3 :: s4 :: s5 :: s6 :: s7 :: s8 :: s9 :: s10 :: s11 :: s12 :: s13 :: s14 :: s15 :: s16 :: .val (.dct ks vs) :: r, W⟩ := rfl
theorem pkVarV17 : pkVar 17 ⟨s0 :: s1 :: s2 :: s3 :: s4 :: s5 :: s6 :: s7 :: s8 :: s9 :: s10 :: s11 :: s12 :: s13 :: s14 :: s15 :: s16 :: .val d :: r, W⟩ U E = U (.val d) ⟨s0 :: s1 :: s2 :: s3 :: s4 :: s5 :: s6 :: s7 :: s8 :: s9 :: s10 :: s11 :: s12 :: s13 :: s14 :: s15 :: s16 :: .val d :: r, W⟩ := rfl
theorem pkVarO17 : pkVar 17 ⟨s0 :: s1 :: s2 :: s3 :: s4 :: s5 :: s6 :: s7 :: s8 :: s9 :: s10 :: s11 :: s12 :: s13 :: s14 :: s15 :: s16 :: .own o :: r, W⟩ U E = U (.slot 17) ⟨s0 :: s1 :: s2 :: s3 :: s4 :: s5 :: s6 :: s7 :: s8 :: s9 :: s10 :: s11 :: s12 :: s13 :: s14 :: s15 :: s16 :: .own o :: r, W⟩ := rfl
theorem kSetN17 : kSet 17 P d ⟨s0 :: s1 :: s2 :: s3 :: s4 :: s5 :: s6 :: s7 :: s8 :: s9 :: s10 :: s11 :: s12 :: s13 :: s14 :: s15 :: s16 :: s17 :: r, W⟩ = P.nx ⟨s0 :: s1 :: s2 :: s3 :: s4 :: s5 :: s6 :: s7 :: s8 :: s9 :: s10 :: s11 :: s12 :: s13 :: s14 :: s15 :: s16 :: .val d :: r, W⟩ := rfl
theorem kSetO_N17 : kSetO 17 P o ⟨s0 :: s1 :: s2 :: s3 :: s4 :: s5 :: s6 :: s7 :: s8 :: s9 :: s10 :: s11 :: s12 :: s13 :: s14 :: s15 :: s16 :: s17 :: r, W⟩ = P.nx ⟨s0 :: s1 :: s2 :: s3 :: s4 :: s5 :: s6 :: s7 :: s8 :: s9 :: s10 :: s11 :: s12 :: s13 :: s14 :: s15 :: s16 :: .own o :: r, W⟩ := rfl
theorem pgNameN17 : pgName 17 d ⟨s0 :: s1 :: s2 :: s3 :: s4 :: s5 :: s6 :: s7 :: s8 :: s9 :: s10 :: s11 :: s12 :: s13 :: s14 :: s15 :: s16 :: s17 :: r, W⟩ T = T ⟨s0 :: s1 :: s2 :: s3 :: s4 :: s5 :: s6 :: s7 :: s8 :: s9 :: s10 :: s11 :: s12 :: s13 :: s14 :: s15 :: s16 :: .val d :: r, W⟩ := rfl
theorem ixS17 : ixC (con ⟨s0 :: s1 :: s2 :: s3 :: s4 :: s5 :: s6 :: s7 :: s8 :: s9 :: s10 :: s11 :: s12 :: s13 :: s14 :: s15 :: s16 :: .own o :: r, W⟩ (.slot 17)) y G = ixC (.own o) y G := rfl
theorem lenS17 : lenC (con ⟨s0 :: s1 :: s2 :: s3 :: s4 :: s5 :: s6 :: s7 :: s8 :: s9 :: s10 :: s11 :: s12 :: s13 :: s14 :: s15 :: s16 :: .own o :: r, W⟩ (.slot 17)) G = lenC (.own o) G := rfl
theorem setS17 : setC (con ⟨s0 :: s1 :: s2 :: s3 :: s4 :: s5 :: s6 :: s7 :: s8 :: s9 :: s10 :: s11 :: s12 :: s13 :: s14 :: s15 :: s16 :: .own o :: r, W⟩ (.slot 17)) y d V = setC (.own o) y d V := rfl
theorem conS17 : con ⟨s0 :: s1 :: s2 :: s3 :: s4 :: s5 :: s6 :: s7 :: s8 :: s9 :: s10 :: s11 :: s12 :: s13 :: s14 :: s15 :: s16 :: .own o :: r, W⟩ (.slot 17) = .own o := rfl
theorem putS17 : putC ⟨s0 :: s1 :: s2 :: s3 :: s4 :: s5 :: s6 :: s7 :: s8 :: s9 :: s10 :: s11 :: s12 :: s13 :: s14 :: s15 :: s16 :: s17 :: r, W⟩ (.slot 17) u = ⟨s0 :: s1 :: s2 :: s3 :: s4 :: s5 :: s6 :: s7 :: s8 :: s9 :: s10 :: s11 :: s12 :: s13 :: s14 :: s15 :: s16 :: .own u :: r, W⟩ := rfl
theorem pVarV18 : pVar 18 ⟨s0 :: s1 :: s2 :: s3 :: s4 :: s5 :: s6 :: s7 :: s8 :: s9 :: s10 :: s11 :: s12 :: s13 :: s14 :: s15 :: s16 :: s17 :: .val d :: r, W⟩ Q E = Q d ⟨s0 :: s1 :: s2 :: s3 :: s4 :: s5 :: s6 :: s7 :: s8 :: s9 :: s10 :: s11 :: s12 :: s13 :: s14 :: s15 :: s16 :: s17 :: .val d :: r, W⟩ := rfl
theorem pVarL18 : pVar 18 ⟨s0 :: s1 :: s2 :: s3 :: s4 :: s5 :: s6 :: s7 :: s8 :: s9 :: s10 :: s11 :: s12 :: s13 :: s14 :: s15 :: s16 :: s17 :: .own (.lst xs) :: r, W⟩ Q E = Q (.lst xs) ⟨s0 :: s1 :: s2 :: s3 :: s4 :: s5 :: s6 :: s7 :: s8 :: s9 :: s10 :: s11 :: s12 :: s13 :: s14 :: s15 :: s16 :: s17 :: .val (.lst xs) :: r, W⟩ := rfl
theorem pVarD18 : pVar 18 ⟨s0 :: s1 :: s2 :: s3 :: s4 :: s5 :: s6 :: s7 :: s8 :: s9 :: s10 :: s11 :: s12 :: s13 :: s14 :: s15 :: s16 :: s17 :: .own (.dct ks vs) :: r, W⟩ Q E = Q (.dct ks vs) ⟨s0 :: s1 :: s2 :: s3 :: s4 :: s5 :: s6 :: s7 :: s8 :: s9 :: s10 :: s11 :: s12 :: s13 :: s14 :: s15 :: s16 :: s17 :: .val (.dct ks vs) :: r, W⟩ := rfl
theorem pkVarV18 : pkVar 18 ⟨s0 :: s1 :: s2 :: s3 :: s4 :: s5 :: s6 :: s7 :: s8 :: s9 :: s10 :: s11 :: s12 :: s13 :: s14 :: s15 :: s16 :: s17 :: .val d :: r, W⟩ U E = U (.val d) ⟨s0 :: s1 :: s2 :: s3 :: s4 :: s5 :: s6 :: s7 :: s8 :: s9 :: s10 :: s11 :: s12 :: s13 :: s14 :: s15 :: s16 :: s17 :: .val d :: r, W⟩ := rfl
theorem pkVarO18 : pkVar 18 ⟨s0 :: s1 :: s2 :: s3 :: s4 :: s5 :: s6 :: s7 :: s8 :: s9 :: s10 :: s11 :: s12 :: s13 :: s14 :: s15 :: s16 :: s17 :: .own o :: r, W⟩ U E = U (.slot 18) ⟨s0 :: s1 :: s2 :: s3 :: s4 :: s5 :: s6 :: s7 :: s8 :: s9 :: s10 :: s11 :: s12 :: s13 :: s14 :: s15 :: s16 :: s17 :: .own o :: r, W⟩ := rfl
theorem kSetN18 : kSet 18 P d ⟨s0 :: s1 :: s2 :: s3 :: s4 :: s5 :: s6 :: s7 :: s8 :: s9 :: s10 :: s11 :: s12 :: s13 :: s14 :: s15 :: s16 :: s17 :: s18 :: r, W⟩ = P.nx ⟨s0 :: s1 :: s2 :: s3 :: s4 :: s5 :: s6 :: s7 :: s8 :: s9 :: s10 :: s11 :: s12 :: s13 :: s14 :: s15 :: s16 :: s17 :: .val d :: r, W⟩ := rfl
theorem kSetO_N18 : kSetO 18 P o ⟨s0 :: s1 :: s2 :: s3 :: s4 :: s5 :: s6 :: s7 :: s8 :: s9 :: s10 :: s11 :: s12 :: s13 :: s14 :: s15 :: s16 :: s17 :: s18 :: r, W⟩ = P.nx ⟨s0 :: s1 :: s2 :: s3 :: s4 :: s5 :: s6 :: s7 :: s8 :: s9 :: s10 :: s11 :: s12 :: s13 :: s14 :: s15 :: s16 :: s17 :: .own o :: r, W⟩ := rfl
theorem pgNameN18 : pgName 18 d ⟨s0 :: s1 :: s2 :: s3 :: s4 :: s5 :: s6 :: s7 :: s8 :: s9 :: s10 :: s11 :: s12 :: s13 :: s14 :: s15 :: s16 :: s17 :: s18 :: r, W⟩ T = T ⟨s0 :: s1 :: s2 :: s3 :: s4 :: s5 :: s6 :: s7 :: s8 :: s9 :: s10 :: s11 :: s12 :: s13 :: s14 :: s15 :: s16 :: s17 :: .val d :: r, W⟩ := rfl
theorem ixS18 : ixC (con ⟨s0 :: s1 :: s2 :: s3 :: s4 :: s5 :: s6 :: s7 :: s8 :: s9 :: s10 :: s11 :: s12 :: s13 :: s14 :: s15 :: s16 :: s17 :: .own o :: r, W⟩ (.slot 18)) y G = ixC (.own o) y G := rfl
theorem lenS18 : lenC (con ⟨s0 :: s1 :: s2 :: s3 :: s4 :: s5 :: s6 :: s7 :: s8 :: s9 :: s10 :: s11 :: s12 :: s13 :: s14 :: s15 :: s16 :: s17 :: .own o :: r, W⟩ (.slot 18)) G = lenC (.own o) G := rfl
theorem setS18 : setC (con ⟨s0 :: s1 :: s2 :: s3 :: s4 :: s5 :: s6 :: s7 :: s8 :: s9 :: s10 :: s11 :: s12 :: s13 :: s14 :: s15 :: s16 :: s17 :: .own o :: r, W⟩ (.slot 18)) y d V = setC (.own o) y d V := rfl
theorem conS18 : con ⟨s0 :: s1 :: s2 :: s3 :: s4 :: s5 :: s6 :: s7 :: s8 :: s9 :: s10 :: s11 :: s12 :: s13 :: s14 :: s15 :: s16 :: s17 :: .own o :: r, W⟩ (.slot 18) = .own o := rfl
theorem putS18 : putC ⟨s0 :: s1 :: s2 :: s3 :: s4 :: s5 :: s6 :: s7 :: s8 :: s9 :: s10 :: s11 :: s12 :: s13 :: s14 :: s15 :: s16 :: s17 :: s18 :: r, W⟩ (.slot 18) u = ⟨s0 :: s1 :: s2 :: s3 :: s4 :: s5 :: s6 :: s7 :: s8 :: s9 :: s10 :: s11 :: s12 :: s13 :: s14 :: s15 :: s16 :: s17 :: .own u :: r, W⟩ := rfl
theorem pVarV19 : pVar 19 ⟨s0 :: s1 :: s2 :: s3 :: s4 :: s5 :: s6 :: s7 :: s8 :: s9 :: s10 :: s11 :: s12 :: s13 :: s14 :: s15 :: s16 :: s17 :: s18 :: .val d :: r, W⟩ Q E = Q d ⟨s0 :: s1 :: s2 :: s3 :: s4 :: s5 :: s6 :: s7 :: s8 :: s9 :: s10 :: s11 :: s12 :: s13 :: s14 :: s15 :: s16 :: s17 :: s18 :: .val d :: r, W⟩ := rfl
theorem pVarL19 : pVar 19 ⟨s0 :: s1 :: s2 :: s3 :: s4 :: s5 :: s6 :: s7 :: s8 :: s9 :: s10 :: s11 :: s12 :: s13 :: s14 :: s15 :: s16 :: s17 :: s18 :: .own (.lst xs) :: r, W⟩ Q E = Q (.lst xs) ⟨s0 :: s1 :: s2 :: s3 :: s4 :: s5 :: s6 :: s7 :: s8 :: s9 :: s10 :: s11 :: s12 :: s13 :: s14 :: s15 :: s16 :: s17 :: s18 :: .val (.lst xs) :: r, W⟩ := rfl
theorem pVarD19 : pVar 19 ⟨s0 :: s1 :: s2 :: s3 :: s4 :: s5 :: s6 :: s7 :: s8 :: s9 :: s10 :: s11 :: s12 :: s13 :: s14 :: s15 :: s16 :: s17 :: s18 :: .own (.dct ks vs) :: r, W⟩ Q E = Q (.dct ks vs) ⟨s0 :: s1 :: s2 :: s3 :: s4 :: s5 :: s6 :: s7 :: s8 :: s9 :: s10 :: s11 :: s12 :: s13 :: s14 :: s15 :: s16 :: s17 :: s18 :: .val (.dct ks vs) :: r, W⟩ := rfl
theorem pkVarV19 : pkVar 19 ⟨s0 :: s1 :: s2 :: s3 :: s4 :: s5 :: s6 :: s7 :: s8 :: s9 :: s10 :: s11 :: s12 :: s13 :: s14 :: s15 :: s16 :: s17 :: s18 :: .val d :: r, W⟩ U E = U (.val d) ⟨s0 :: s1 :: s2 :: s3 :: s4 :: s5 :: s6 :: s7 :: s8 :: s9 :: s10 :: s11 :: s12 :: s13 :: s14 :: s15 :: s16 :: s17 :: s18 :: .val d :: r, W⟩ := rfl
theorem pkVarO19 : pkVar 19 ⟨s0 :: s1 :: s2 :: s3 :: s4 :: s5 :: s6 :: s7 :: s8 :: s9 :: s10 :: s11 :: s12 :: s13 :: s14 :: s15 :: s16 :: s17 :: s18 :: .own o :: r, W⟩ U E = U (.slot 19) ⟨s0 :: s1 :: s2 :: s3 :: s4 :: s5 :: s6 :: s7 :: s8 :: s9 :: s10 :: s11 :: s12 :: s13 :: s14 :: s15 :: s16 :: s17 :: s18 :: .own o :: r, W⟩ := rfl
theorem kSetN19 : kSet 19 P d ⟨s0 :: s1 :: s2 :: s3 :: s4 :: s5 :: s6 :: s7 :: s8 :: s9 :: s10 :: s11 :: s12 :: s13 :: s14 :: s15 :: s16 :: s17 :: s18 :: s19 :: r, W⟩ = P.nx ⟨s0 :: s1 :: s2 :: s3 :: s4 :: s5 :: s6 :: s7 :: s8 :: s9 :: s10 :: s11 :: s12 :: s13 :: s14 :: s15 :: s16 :: s17 :: s18 :: .val d :: r, W⟩ := rfl
theorem kSetO_N19 : kSetO 19 P o ⟨s0 :: s1 :: s2 :: s3 :: s4 :: s5 :: s6 :: s7 :: s8 :: s9 :: s10 :: s11 :: s12 :: s13 :: s14 :: s15 :: s16 :: s17 :: s18 :: s19 :: r, W⟩ = P.nx ⟨s0 :: s1 :: s2 :: s3 :: s4 :: s5 :: s6 :: s7 :: s8 :: s9 :: s10 :: s11 :: s12 :: s13 :: s14 :: s15 :: s16 :: s17 :: s18 :: .own o :: r, W⟩ := rfl
theorem pgNameN19 : pgName 19 d ⟨s0 :: s1 :: s2 :: s3 :: s4 :: s5 :: s6 :: s7 :: s8 :: s9 :: s10 :: s11 :: s12 :: s13 :: s14 :: s15 :: s16 :: s17 :: s18 :: s19 :: r, W⟩ T = T ⟨s0 :: s1 :: s2 :: s3 :: s4 :: s5 :: s6 :: s7 :: s8 :: s9 :: s10 :: s11 :: s12 :: s13 :: s14 :: s15 :: s16 :: s17 :: s18 :: .val d :: r, W⟩ := rfl
theorem ixS19 : ixC (con ⟨s0 :: s1 :: s2 :: s3 :: s4 :: s5 :: s6 :: s7 :: s8 :: s9 :: s10 :: s11 :: s12 :: s13 :: s14 :: s15 :: s16 :: s17 :: s18 :: .own o :: r, W⟩ (.slot 19)) y G = ixC (.own o) y G := rfl
theorem lenS19 : lenC (con ⟨s0 :: s1 :: s2 :: s3 :: s4 :: s5 :: s6 :: s7 :: s8 :: s9 :: s10 :: s11 :: s12 :: s13 :: s14 :: s15 :: s16 :: s17 :: s18 :: .own o :: r, W⟩ (.slot 19)) G = lenC (.own o) G := rfl
theorem setS19 : setC (con ⟨s0 :: s1 :: s2 :: s3 :: s4 :: s5 :: s6 :: s7 :: s8 :: s9 :: s10 :: s11 :: s12 :: s13 :: s14 :: s15 :: s16 :: s17 :: s18 :: .own o :: r, W⟩ (.slot 19)) y d V = setC (.own o) y d V := rfl
theorem conS19 : con ⟨s0 :: s1 :: s2 :: s3 :: s4 :: s5 :: s6 :: s7 :: s8 :: s9 :: s10 :: s11 :: s12 :: s13 :: s14 :: s15 :: s16 :: s17 :: s18 :: .own o :: r, W⟩ (.slot 19) = .own o := rfl
theorem putS19 : putC ⟨s0 :: s1 :: s2 :: s3 :: s4 :: s5 :: s6 :: s7 :: s8 :: s9 :: s10 :: s11 :: s12 :: s13 :: s14 :: s15 :: s16 :: s17 :: s18 :: s19 :: r, W⟩ (.slot 19) u = ⟨s0 :: s1 :: s2 :: s3 :: s4 :: s5 :: s6 :: s7 :: s8 :: s9 :: s10 :: s11 :: s12 :: s13 :: s14 :: s15 :: s16 :: s17 :: s18 :: .own u :: r, W⟩ := rfl
theorem pVarV20 : pVar 20 ⟨s0 :: s1 :: s2 :: s3 :: s4 :: s5 :: s6 :: s7 :: s8 :: s9 :: s10 :: s11 :: s12 :: s13 :: s14 :: s15 :: s16 :: s17 :: s18 :: s19 :: .val d :: r, W⟩ Q E = Q d ⟨s0 :: s1 :: s2 :: s3 :: s4 :: s5 :: s6 :: s7 :: s8 :: s9 :: s10 :: s11 :: s12 :: s13 :: s14 :: s15 :: s16 :: s17 :: s18 :: s19 :: .val d :: r, W⟩ := rfl
theorem pVarL20 : pVar 20 ⟨s0 :: s1 :: s2 :: s3 :: s4 :: s5 :: s6 :: s7 :: s8 :: s9 :: s10 :: s11 :: s12 :: s13 :: s14 :: s15 :: s16 :: s17 :: s18 :: s19 :: .own (.lst xs) :: r, W⟩ Q E = Q (.lst xs) ⟨s0 :: s1 :: s2 :: s3 :: s4 :: s5 :: s6 :: s7 :: s8 :: s9 :: s10 :: s11 :: s12 :: s13 :: s14 :: s15 :: s16 :: s17 :: s18 :: s19 :: .val (.lst xs) :: r, W⟩ := rfl
theorem pVarD20 : pVar 20 ⟨s0 :: s1 :: s2 :: s3 :: s4 :: s5 :: s6 :: s7 :: s8 :: s9 :: s10 :: s11 :: s12 :: s13 :: s14 :: s15 :: s16 :: s17 :: s18 :: s19 :: .own (.dct ks vs) :: r, W⟩ Q E = Q (.dct ks vs) ⟨s0 :: s1 :: s2 :: s3 :: s4 :: s5 :: s6 :: s7 :: s8 :: s9 :: s10 :: s11 :: s12 :: s13 :: s14 :: s15 :: s16 :: s17 :: s18 :: s19 :: .val (.dct ks vs) :: r, W⟩ := rfl
theorem pkVarV20 : pkVar 20 ⟨s0 :: s1 :: s2 :: s3 :: s4 :: s5 :: s6 :: s7 :: s8 :: s9 :: s10 :: s11 :: s12 :: s13 :: s14 :: s15 :: s16 :: s17 :: s18 :: s19 :: .val d :: r, W⟩ U E = U (.val d) ⟨s0 :: s1 :: s2 :: s3 :: s4 :: s5 :: s6 :: s7 :: s8 :: s9 :: s10 :: s11 :: s12 :: s13 :: s14 :: s15 :: s16 :: s17 :: s18 :: s19 :: .val d :: r, W⟩ := rfl
theorem pkVarO20 : pkVar 20 ⟨s0 :: s1 :: s2 :: s3 :: s4 :: s5 :: s6 :: s7 :: s8 :: s9 :: s10 :: s11 :: s12 :: s13 :: s14 :: s15 :: s16 :: s17 :: s18 :: s19 :: .own o :: r, W⟩ U E = U (.slot 20) ⟨s0 :: s1 :: s2 :: s3 :: s4 :: s5 :: s6 :: s7 :: s8 :: s9 :: s10 :: s11 :: s12 :: s13 :: s14 :: s15 :: s16 :: s17 :: s18 :: s19 :: .own o :: r, W⟩ := rfl
theorem kSetN20 : kSet 20 P d ⟨s0 :: s1 :: s2 :: s3 :: s4 :: s5 :: s6 :: s7 :: s8 :: s9 :: s10 :: s11 :: s12 :: s13 :: s14 :: s15 :: s16 :: s17 :: s18 :: s19 :: s20 :: r, W⟩ = P.nx ⟨s0 :: s1 :: s2 :: s3 :: s4 :: s5 :: s6 :: s7 :: s8 :: s9 :: s10 :: s11 :: s12 :: s13 :: s14 :: s15 :: s16 :: s17 :: s18 :: s19 :: .val d :: r, W⟩ := rfl
theorem kSetO_N20 : kSetO 20 P o ⟨s0 :: s1 :: s2 :: s3 :: s4 :: s5 :: s6 :: s7 :: s8 :: s9 :: s10 :: s11 :: s12 :: s13 :: s14 :: s15 :: s16 :: s17 :: s18 :: s19 :: s20 :: r, W⟩ = P.nx ⟨s0 :: s1 :: s2 :: s3 :: s4 :: s5 :: s6 :: s7 :: s8 :: s9 :: s10 :: s11 :: s12 :: s13 :: s14 :: s15 :: s16 :: s17 :: s18 :: s19 :: .own o :: r, W⟩ := rfl
theorem pgNameN20 : pgName 20 d ⟨s0 :: s1 :: s2 :: s3 :: s4 :: s5 :: s6 :: s7 :: s8 :: s9 :: s10 :: s11 :: s12 :: s13 :: s14 :: s15 :: s16 :: s17 :: s18 :: s19 :: s20 :: r, W⟩ T = T ⟨s0 :: s1 :: s2 :: s3 :: s4 :: s5 :: s6 :: s7 :: s8 :: s9 :: s10 :: s11 :: s12 :: s13 :: s14 :: s15 :: s16 :: s17 :: s18 :: s19 :: .val d :: r, W⟩ := rfl
theorem ixS20 : ixC (con ⟨s0 :: s1 :: s2 :: s3 :: s4 :: s5 :: s6 :: s7 :: s8 :: s9 :: s10 :: s11 :: s12 :: s13 :: s14 :: s15 :: s16 :: s17 :: s18 :: s19 :: .own o :: r, W⟩ (.slot 20)) y G = ixC (.own o) y G := rfl
theorem lenS20 : lenC (con ⟨s0 :: s1 :: s2 :: s3 :: s4 :: s5 :: s6 :: s7 :: s8 :: s9 :: s10 :: s11 :: s12 :: s13 :: s14 :: s15 :: s16 :: s17 :: s18 :: s19 :: .own o :: r, W⟩ (.slot 20)) G = lenC (.own o) G := rfl
theorem setS20 : setC (con ⟨s0 :: s1 :: s2 :: s3 :: s4 :: s5 :: s6 :: s7 :: s8 :: s9 :: s10 :: s11 :: s12 :: s13 :: s14 :: s15 :: s16 :: s17 :: s18 :: s19 :: .own o :: r, W⟩ (.slot 20)) y d V = setC (.own o) y d V := rfl
theorem conS20 : con ⟨s0 :: s1 :: s2 :: s3 :: s4 :: s5 :: s6 :: s7 :: s8 :: s9 :: s10 :: s11 :: s12 :: s13 :: s14 :: s15 :: s16 :: s17 :: s18 :: s19 :: .own o :: r, W⟩ (.slot 20) = .own o := rfl
theorem putS20 : putC ⟨s0 :: s1 :: s2 :: s3 :: s4 :: s5 :: s6 :: s7 :: s8 :: s9 :: s10 :: s11 :: s12 :: s13 :: s14 :: s15 :: s16 :: s17 :: s18 :: s19 :: s20 :: r, W⟩ (.slot 20) u = ⟨s0 :: s1 :: s2 :: s3 :: s4 :: s5 :: s6 :: s7 :: s8 :: s9 :: s10 :: s11 :: s12 :: s13 :: s14 :: s15 :: s16 :: s17 :: s18 :: s19 :: .own u :: r, W⟩ := rfl
theorem pVarV21 : pVar 21 ⟨s0 :: s1 :: s2 :: s3 :: s4 :: s5 :: s6 :: s7 :: s8 :: s9 :: s10 :: s11 :: s12 :: s13 :: s14 :: s15 :: s16 :: s17 :: s18 :: s19 :: s20 :: .val d :: r, W⟩ Q E = Q d ⟨s0 :: s1 :: s2 :: s3 :: s4 :: s5 :: s6 :: s7 :: s8 :: s9 :: s10 :: s11 :: s12 :: s13 :: s14 :: s15 :: s16 :: s17 :: s18 :: s19 :: s20 :: .val d :: r, W⟩ := rfl
theorem pVarL21 : pVar 21 ⟨s0 :: s1 :: s2 :: s3 :: s4 :: s5 :: s6 :: s7 :: s8 :: s9 :: s10 :: s11 :: s12 :: s13 :: s14 :: s15 :: s16 :: s17 :: s18 :: s19 :: s20 :: .own (.lst xs) :: r, W⟩ Q E = Q (.lst xs) ⟨s0 :: s1 :: s2 :: s3 :: s4 :: s5 :: s6 :: s7 :: s8 :: s9 :: s10 :: s11 :: s12 :: s13 :: s14 :: s15 :: s16 :: s17 :: s18 :: s19 :: s20 :: .val (.lst xs) :: r, W⟩ := rfl
theorem pVarD21 : pVar 21 ⟨s0 :: s1 :: s2 :: s3 :: s4 :: s5 :: s6 :: s7 :: s8 :: s9 :: s10 :: s11 :: s12 :: s13 :: s14 :: s15 :: s16 :: s17 :: s18 :: s19 :: s20 :: .own (.dct ks vs) :: r, W⟩ Q E = Q (.dct ks vs) ⟨s0 :: s1 :: s2 :: s3 :: s4 :: s5 :: s6 :: s7 :: s8 :: s9 :: s10 :: s11 :: s12 :: s13 :: s14 :: s15 :: s16 :: s17 :: s18 :: s19 :: s20 :: .val (.dct ks vs) :: r, W⟩ := rfl
theorem pkVarV21 : pkVar 21 ⟨s0 :: s1 :: s2 :: s3 :: s4 :: s5 :: s6 :: s7 :: s8 :: s9 :: s10 :: s11 :: s12 :: s13 :: s14 :: s15 :: s16 :: s17 :: s18 :: s19 :: s20 :: .val d :: r, W⟩ U E = U (.val d) ⟨s0 :: s1 :: s2 :: s3 :: s4 :: s5 :: s6 :: s7 :: s8 :: s9 :: s10 :: s11 :: s12 :: s13 :: s14 :: s15 :: s16 :: s17 :: s18 :: s19 :: s20 :: .val d :: r, W⟩ := rfl
theorem pkVarO21 : pkVar 21 ⟨s0 :: s1 :: s2 :: s3 :: s4 :: s5 :: s6 :: s7 :: s8 :: s9 :: s10 :: s11 :: s12 :: s13 :: s14 :: s15 :: s16 :: s17 :: s18 :: s19 :: s20 :: .own o :: r, W⟩ U E = U (.slot 21) ⟨s0 :: s1 :: s2 :: s3 :: s4 :: s5 :: s6 :: s7 :: s8 :: s9 :: s10 :: s11 :: s12 :: s13 :: s14 :: s15 :: s16 :: s17 :: s18 :: s19 :: s20 :: .own o :: r, W⟩ := rfl
theorem kSetN21 : kSet 21 P d ⟨s0 :: s1 :: s2 :: s3 :: s4 :: s5 :: s6 :: s7 :: s8 :: s9 :: s10 :: s11 :: s12 :: s13 :: s14 :: s15 :: s16 :: s17 :: s18 :: s19 :: s20 :: s21 :: r, W⟩ = P.nx ⟨s0 :: s1 :: s2 :: s3 :: s4 :: s5 :: s6 :: s7 :: s8 :: s9 :: s10 :: s11 :: s12 :: s13 :: s14 :: s15 :: s16 :: s17 :: s18 :: s19 :: s20 :: .val d :: r, W⟩ := rfl
theorem kSetO_N21 : kSetO 21 P o ⟨s0 :: s1 :: s2 :: s3 :: s4 :: s5 :: s6 :: s7 :: s8 :: s9 :: s10 :: s11 :: s12 :: s13 :: s14 :: s15 :: s16 :: s17 :: s18 :: s19 :: s20 :: s21 :: r, W⟩ = P.nx ⟨s0 :: s1 :: s2 :: s3 :: s4 :: s5 :: s6 :: s7 :: s8 :: s9 :: s10 :: s11 :: s12 :: s13 :: s14 :: s15 :: s16 :: s17 :: s18 :: s19 :: s20 :: .own o :: r, W⟩ := rfl
theorem pgNameN21 : pgName 21 d ⟨s0 :: s1 :: s2 :: s3 :: s4 :: s5 :: s6 :: s7 :: s8 :: s9 :: s10 :: s11 :: s12 :: s13 :: s14 :: s15 :: s16 :: s17 :: s18 :: s19 :: s20 :: s21 :: r, W⟩ T = T ⟨s0 :: s1 :: s2 :: s3 :: s4 :: s5 :: s6 :: s7 :: s8 :: s9 :: s10 :: s11 :: s12 :: s13 :: s14 :: s15 :: s16 :: s17 :: s18 :: s19 :: s20 :: .val d :: r, W⟩ := rfl
theorem ixS21 : ixC (con ⟨s0 :: s1 :: s2 :: s3 :: s4 :: s5 :: s6 :: s7 :: s8 :: s9 :: s10 :: s11 :: s12 :: s13 :: s14 :: s15 :: s16 :: s17 :: s18 :: s19 :: s20 :: .own o :: r, W⟩ (.slot 21)) y G = ixC (.own o) y G := rfl
theorem lenS21 : lenC (con ⟨s0 :: s1 :: s2 :: s3 :: s4 :: s5 :: s6 :: s7 :: s8 :: s9 :: s10 :: s11 :: s12 :: s13 :: s14 :: s15 :: s16 :: s17 :: s18 :: s19 :: s20 :: .own o :: r, W⟩ (.slot 21)) G = lenC (.own o) G := rfl
theorem setS21 : setC (con ⟨s0 :: s1 :: s2 :: s3 :: s4 :: s5 :: s6 :: s7 :: s8 :: s9 :: s10 :: s11 :: s12 :: s13 :: s14 :: s15 :: s16 :: s17 :: s18 :: s19 :: s20 :: .own o :: r, W⟩ (.slot 21)) y d V = setC (.own o) y d V := rfl
theorem conS21 : con ⟨s0 :: s1 :: s2 :: s3 :: s4 :: s5 :: s6 :: s7 :: s8 :: s9 :: s10 :: s11 :: s12 :: s13 :: s14 :: s15 :: s16 :: s17 :: s18 :: s19 :: s20 :: .own o :: r, W⟩ (.slot 21) = .own o := rfl
theorem putS21 : putC ⟨s0 :: s1 :: s2 :: s3 :: s4 :: s5 :: s6 :: s7 :: s8 :: s9 :: s10 :: s11 :: s12 :: s13 :: s14 :: s15 :: s16 :: s17 :: s18 :: s19 :: s20 :: s21 :: r, W⟩ (.slot 21) u = ⟨s0 :: s1 :: s2 :: s3 :: s4 :: s5 :: s6 :: s7 :: s8 :: s9 :: s10 :: s11 :: s12 :: s13 :: s14 :: s15 :: s16 :: s17 :: s18 :: s19 :: s20 :: .own u :: r, W⟩ := rfl
theorem pVarV22 : pVar 22 ⟨s0 :: s1 :: s2 :: s3 :: s4 :: s5 :: s6 :: s7 :: s8 :: s9 :: s10 :: s11 :: s12 :: s13 :: s14 :: s15 :: s16 :: s17 :: s18 :: s19 :: s20 :: s21 :: .val d :: r, W⟩ Q E = Q d ⟨s0 :: s1 :: s2 :: s3 :: s4 :: s5 :: s6 :: s7 :: s8 :: s9 :: s10 :: s11 :: s12 :: s13 :: s14 :: s15 :: s16 :: s17 :: s18 :: s19 :: s20 :: s21 :: .val d :: r, W⟩ := rfl
theorem pVarL22 : pVar 22 ⟨s0 :: s1 :: s2 :: s3 :: s4 :: s5 :: s6 :: s7 :: s8 :: s9 :: s10 :: s11 :: s12 :: s13 :: s14 :: s15 :: s16 :: s17 :: s18 :: s19 :: s20 :: s21 :: .own (.lst xs) :: r, W⟩ Q E = Q (.lst xs) ⟨s0 :: s1 :: s2 :: s3 :: s4 :: s5 :: s6 :: s7 :: s8 :: s9 :: s10 :: s11 :: s12 :: s13 :: s14 :: s15 :: s16 :: s17 :: s18 :: s19 :: s20 :: s21 :: .val (.lst xs) :: r, W⟩ := rfl
theorem pVarD22 : pVar 22 ⟨s0 :: s1 :: s2 :: s3 :: s4 :: s5 :: s6 :: s7 :: s8 :: s9 :: s10 :: s11 :: s12 :: s13 :: s14 :: s15 :: s16 :: s17 :: s18 :: s19 :: s20 :: s21 :: .own (.dct ks vs) :: r, W⟩ Q E = Q (.dct ks vs) ⟨s0 :: s1 :: s2 :: s3 :: s4 :: s5 :: s6 :: s7 :: s8 :: s9 :: s10 :: s11 :: s12 :: s13 :: s14 :: s15 :: s16 :: s17 :: s18 :: s19 :: s20 :: s21 :: .val (.dct ks vs) :: r, W⟩ := rfl
theorem pkVarV22 : pkVar 22 ⟨s0 :: s1 :: s2 :: s3 :: s4 :: s5 :: s6 :: s7 :: s8 :: s9 :: s10 :: s11 :: s12 :: s13 :: s14 :: s15 :: s16 :: s17 :: s18 :: s19 :: s20 :: s21 :: .val d :: r, W⟩ U E = U (.val d) ⟨s0 :: s1 :: s2 :: s3 :: s4 :: s5 :: s6 :: s7 :: s8 :: s9 :: s10 :: s11 :: s12 :: s13 :: s14 :: s15 :: s16 :: s17 :: s18 :: s19 :: s20 :: s21 :: .val d :: r, W⟩ := rfl
theorem pkVarO22 : pkVar 22 ⟨s0 :: s1 :: s2 :: s3 :: s4 :: s5 :: s6 :: s7 :: s8 :: s9 :: s10 :: s11 :: s12 :: s13 :: s14 :: s15 :: s16 :: s17 :: s18 :: s19 :: s20 :: s21 :: .own o :: r, W⟩ U E = U (.slot 22) ⟨s0 :: s1 :: s2 :: s3 :: s4 :: s5 :: s6 :: s7 :: s8 :: s9 :: s10 :: s11 :: s12 :: s13 :: s14 :: s15 :: s16 :: s17 :: s18 :: s19 :: s20 :: s21 :: .own o :: r, W⟩ := rfl
theorem kSetN22 : kSet 22 P d ⟨s0 :: s1 :: s2 :: s3 :: s4 :: s5 :: s6 :: s7 :: s8 :: s9 :: s10 :: s11 :: s12 :: s13 :: s14 :: s15 :: s16 :: s17 :: s18 :: s19 :: s20 :: s21 :: s22 :: r, W⟩ = P.nx ⟨s0 :: s1 :: s2 :: s3 :: s4 :: s5 :: s6 :: s7 :: s8 :: s9 :: s10 :: s11 :: s12 :: s13 :: s14 :: s15 :: s16 :: s17 :: s18 :: s19 :: s20 :: s21 :: .val d :: r, W⟩ := rfl
theorem kSetO_N22 : kSetO 22 P o ⟨s0 :: s1 :: s2 :: s3 :: s4 :: s5 :: s6 :: s7 :: s8 :: s9 :: s10 :: s11 :: s12 :: s13 :: s14 :: s15 :: s16 :: s17 :: s18 :: s19 :: s20 :: s21 :: s22 :: r, W⟩ = P.nx ⟨s0 :: s1 :: s2 :: s3 :: s4 :: s5 :: s6 :: s7 :: s8 :: s9 :: s10 :: s11 :: s12 :: s13 :: s14 :: s15 :: s16 :: s17 :: s18 :: s19 :: s20 :: s21 :: .own o :: r, W⟩ := rfl
theorem pgNameN22 : pgName 22 d ⟨s0 :: s1 :: s2 :: s3 :: s4 :: s5 :: s6 :: s7 :: s8 :: s9 :: s10 :: s11 :: s12 :: s13 :: s14 :: s15 :: s16 :: s17 :: s18 :: s19 :: s20 :: s21 :: s22 :: r, W⟩ T = T ⟨s0 :: s1 :: s2 :: s3 :: s4 :: s5 :: s6 :: s7 :: s8 :: s9 :: s10 :: s11 :: s12 :: s13 :: s14 :: s15 :: s16 :: s17 :: s18 :: s19 :: s20 :: s21 :: .val d :: r, W⟩ := rfl
theorem ixS22 : ixC (con ⟨s0 :: s1 :: s2 :: s3 :: s4 :: s5 :: s6 :: s7 :: s8 :: s9 :: s10 :: s11 :: s12 :: s13 :: s14 :: s15 :: s16 :: s17 :: s18 :: s19 :: s20 :: s21 :: .own o :: r, W⟩ (.slot 22)) y G = ixC (.own o) y G := rfl
theorem lenS22 : lenC (con ⟨s0 :: s1 :: s2 :: s3 :: s4 :: s5 :: s6 :: s7 :: s8 :: s9 :: s10 :: s11 :: s12 :: s13 :: s14 :: s15 :: s16 :: s17 :: s18 :: s19 :: s20 :: s21 :: .own o :: r, W⟩ (.slot 22)) G = lenC (.own o) G := rfl
theorem setS22 : setC (con ⟨s0 :: s1 :: s2 :: s3 :: s4 :: s5 :: s6 :: s7 :: s8 :: s9 :: s10 :: s11 :: s12 :: s13 :: s14 :: s15 :: s16 :: s17 :: s18 :: s19 :: s20 :: s21 :: .own o :: r, W⟩ (.slot 22)) y d V = setC (.own o) y d V := rfl
theorem conS22 : con ⟨s0 :: s1 :: s2 :: s3 :: s4 :: s5 :: s6 :: s7 :: s8 :: s9 :: s10 :: s11 :: s12 :: s13 :: s14 :: s15 :: s16 :: s17 :: s18 :: s19 :: s20 :: s21 :: .own o :: r, W⟩ (.slot 22) = .own o := rfl
theorem putS22 : putC ⟨s0 :: s1 :: s2 :: s3 :: s4 :: s5 :: s6 :: s7 :: s8 :: s9 :: s10 :: s11 :: s12 :: s13 :: s14 :: s15 :: s16 :: s17 :: s18 :: s19 :: s20 :: s21 :: s22 :: r, W⟩ (.slot 22) u = ⟨s0 :: s1 :: s2 :: s3 :: s4 :: s5 :: s6 :: s7 :: s8 :: s9 :: s10 :: s11 :: s12 :: s13 :: s14 :: s15 :: s16 :: s17 :: s18 :: s19 :: s20 :: s21 :: .own u :: r, W⟩ := rfl
theorem pVarV23 : pVar 23 ⟨s0 :: s1 :: s2 :: s3 :: s4 :: s5 :: s6 :: s7 :: s8 :: s9 :: s10 :: s11 :: s12 :: s13 :: s14 :: s15 :: s16 :: s17 :: s18 :: s19 :: s20 :: s21 :: s22 :: .val d :: r, W⟩ Q E = Q d ⟨s0 :: s1 :: s2 :: s3 :: s4 :: s5 :: s6 :: s7 :: s8 :: s9 :: s10 :: s11 :: s12 :: s13 :: s14 :: s15 :: s16 :: s17 :: s18 :: s19 :: s20 :: s21 :: s22 :: .val d :: r, W⟩ := rfl
theorem pVarL23 : pVar 23 ⟨s0 :: s1 :: s2 :: s3 :: s4 :: s5 :: s6 :: s7 :: s8 :: s9 :: s10 :: s11 :: s12 :: s13 :: s14 :: s15 :: s16 :: s17 :: s18 :: s19 :: s20 :: s21 :: s22 :: .own (.lst xs) :: r, W⟩ Q E = Q (.lst xs) ⟨s0 :: s1 :: s2 :: s3 :: s4 :: s5 :: s6 :: s7 :: s8 :: s9 :: s10 :: s11 :: s12 :: s13 :: s14 :: s15 :: s16 :: s17 :: s18 :: s19 :: s20 :: s21 :: s22 :: .val (.lst xs) :: r, W⟩ := rfl
theorem pVarD23 : pVar 23 ⟨s0 :: s1 :: s2 :: s3 :: s4 :: s5 :: s6 :: s7 :: s8 :: s9 :: s10 :: s11 :: s12 :: s13 :: s14 :: s15 :: s16 :: s17 :: s18 :: s19 :: s20 :: s21 :: s22 :: .own (.dct ks vs) :: r, W⟩ Q E = Q (.dct ks vs) ⟨s0 :: s1 :: s2 :: s3 :: s4 :: s5 :: s6 :: s7 :: s8 :: s9 :: s10 :: s11 :: s12 :: s13 :: s14 :: s15 :: s16 :: s17 :: s18 :: s19 :: s20 :: s21 :: s22 :: .val (.dct ks vs) :: r, W⟩ := rfl
theorem pkVarV23 : pkVar 23 ⟨s0 :: s1 :: s2 :: s3 :: s4 :: s5 :: s6 :: s7 :: s8 :: s9 :: s10 :: s11 :: s12 :: s13 :: s14 :: s15 :: s16 :: s17 :: s18 :: s19 :: s20 :: s21 :: s22 :: .val d :: r, W⟩ U E = U (.val d) ⟨s0 :: s1 :: s2 :: s3 :: s4 :: s5 :: s6 :: s7 :: s8 :: s9 :: s10 :: s11 :: s12 :: s13 :: s14 :: s15 :: s16 :: s17 :: s18 :: s19 :: s20 :: s21 :: s22 :: .val d :: r, W⟩ := rfl
theorem pkVarO23 : pkVar 23 ⟨s0 :: s1 :: s2 :: s3 :: s4 :: s5 :: s6 :: s7 :: s8 :: s9 :: s10 :: s11 :: s12 :: s13 :: s14 :: s15 :: s16 :: s17 :: s18 :: s19 :: s20 :: s21 :: s22 :: .own o :: r, W⟩ U E = U (.slot 23) ⟨s0 :: s1 :: s2 :: s3 :: s4 :: s5 :: s6 :: s7 :: s8 :: s9 :: s10 :: s11 :: s12 :: s13 :: s14 :: s15 :: s16 :: s17 :: s18 :: s19 :: s20 :: s21 :: s22 :: .own o :: r, W⟩ := rfl
theorem kSetN23 : kSet 23 P d ⟨s0 :: s1 :: s2 :: s3 :: s4 :: s5 :: s6 :: s7 :: s8 :: s9 :: s10 :: s11 :: s12 :: s13 :: s14 :: s15 :: s16 :: s17 :: s18 :: s19 :: s20 :: s21 :: s22 :: s23 :: r, W⟩ = P.nx ⟨s0 :: s1 :: s2 :: s3 :: s4 :: s5 :: s6 :: s7 :: s8 :: s9 :: s10 :: s11 :: s12 :: s13 :: s14 :: s15 :: s16 :: s17 :: s18 :: s19 :: s20 :: s21 :: s22 :: .val d :: r, W⟩ := rfl
theorem kSetO_N23 : kSetO 23 P o ⟨s0 :: s1 :: s2 :: s3 :: s4 :: s5 :: s6 :: s7 :: s8 :: s9 :: s10 :: s11 :: s12 :: s13 :: s14 :: s15 :: s16 :: s17 :: s18 :: s19 :: s20 :: s21 :: s22 :: s23 :: r, W⟩ = P.nx ⟨s0 :: s1 :: s2 :: s3 :: s4 :: s5 :: s6 :: s7 :: s8 :: s9 :: s10 :: s11 :: s12 :: s13 :: s14 :: s15 :: s16 :: s17 :: s18 :: s19 :: s20 :: s21 :: s22 :: .own o :: r, W⟩ := rfl
theorem pgNameN23 : pgName 23 d ⟨s0 :: s1 :: s2 :: s3 :: s4 :: s5 :: s6 :: s7 :: s8 :: s9 :: s10 :: s11 :: s12 :: s13 :: s14 :: s15 :: s16 :: s17 :: s18 :: s19 :: s20 :: s21 :: s22 :: s23 :: r, W⟩ T = T ⟨s0 :: s1 :: s2 :: s3 :: s4 :: s5 :: s6 :: s7 :: s8 :: s9 :: s10 :: s11 :: s12 :: s13 :: s14 :: s15 :: s16 :: s17 :: s18 :: s19 :: s20 :: s21 :: s22 :: .val d :: r, W⟩ := rfl
theorem ixS23 : ixC (con ⟨s0 :: s1 :: s2 :: s3 :: s4 :: s5 :: s6 :: s7 :: s8 :: s9 :: s10 :: s11 :: s12 :: s13 :: s14 :: s15 :: s16 :: s17 :: s18 :: s19 :: s20 :: s21 :: s22 :: .own o :: r, W⟩ (.slot 23)) y G = ixC (.own o) y G := rfl
theorem lenS23 : lenC (con ⟨s0 :: s1 :: s2 :: s3 :: s4 :: s5 :: s6 :: s7 :: s8 :: s9 :: s10 :: s11 :: s12 :: s13 :: s14 :: s15 :: s16 :: s17 :: s18 :: s19 :: s20 :: s21 :: s22 :: .own o :: r, W⟩ (.slot 23)) G = lenC (.own o) G := rfl
theorem setS23 : setC (con ⟨s0 :: s1 :: s2 :: s3 :: s4 :: s5 :: s6 :: s7 :: s8 :: s9 :: s10 :: s11 :: s12 :: s13 :: s14 :: s15 :: s16 :: s17 :: s18 :: s19 :: s20 :: s21 :: s22 :: .own o :: r, W⟩ (.slot 23)) y d V = setC (.own o) y d V := rfl
theorem conS23 : con ⟨s0 :: s1 :: s2 :: s3 :: s4 :: s5 :: s6 :: s7 :: s8 :: s9 :: s10 :: s11 :: s12 :: s13 :: s14 :: s15 :: s16 :: s17 :: s18 :: s19 :: s20 :: s21 :: s22 :: .own o :: r, W⟩ (.slot 23) = .own o := rfl
theorem putS23 : putC ⟨s0 :: s1 :: s2 :: s3 :: s4 :: s5 :: s6 :: s7 :: s8 :: s9 :: s10 :: s11 :: s12 :: s13 :: s14 :: s15 :: s16 :: s17 :: s18 :: s19 :: s20 :: s21 :: s22 :: s23 :: r, W⟩ (.slot 23) u = ⟨s0 :: s1 :: s2 :: s3 :: s4 :: s5 :: s6 :: s7 :: s8 :: s9 :: s10 :: s11 :: s12 :: s13 :: s14 :: s15 :: s16 :: s17 :: s18 :: s19 :: s20 :: s21 :: s22 :: .own u :: r, W⟩ := rfl
end
theorem ixK_tup (S : Sta) (xs : List D) (y : D) (Q : D → Prop) : ixC (con S (.val (.tup xs))) y Q = oIx (.tup xs) y Q := rfl
theorem ixK_lst (S : Sta) (xs : List D) (y : D) (Q : D → Prop) : ixC (con S (.val (.lst xs))) y Q = oIx (.lst xs) y Q := rfl
theorem ixK_str (S : Sta) (x : Str) (y : D) (Q : D → Prop) : ixC (con S (.val (.str x))) y Q = oIx (.str x) y Q := rfl
theorem ixK_dct (S : Sta) (ks vs : List D) (y : D) (Q : D → Prop) : ixC (con S (.val (.dct ks vs))) y Q = ((keyK y).isSome = true ∧ ∃ d, dget ks vs y = some d ∧ Q d) := rfl
theorem lenK_tup (S : Sta) (xs : List D) (Q : D → Prop) : lenC (con S (.val (.tup xs))) Q = Q (.int xs.length) := rfl
theorem lenK_lst (S : Sta) (xs : List D) (Q : D → Prop) : lenC (con S (.val (.lst xs))) Q = Q (.int xs.length) := rfl
theorem lenK_str (S : Sta) (x : Str) (Q : D → Prop) : lenC (con S (.val (.str x))) Q = (x.length ≤ sizeLine ∧ Q (.int x.length)) := rfl
theorem pSetO_eq (i : Nat) (t : PTO) (P : PEnds) (S : Sta) : pSetO i t P S = t S (kSetO i P) P.ex := rfl
def kPar (i j : Nat) (P : PEnds) : List D → Sta → Prop := fun ds S1 => ∃ x y, ds = [x, y] ∧ P.nx ⟨(S1.ρ.set i (.val x)).set j (.val y), S1.W⟩
theorem pPar_eq (i j : Nat) (t : PTA) (P : PEnds) (S : Sta) : pPar i j t P S = t S (kPar i j P) P.ex := rfl
theorem kPar_mk (i j : Nat) (P : PEnds) (x y : D) (S : Sta) : kPar i j P [x, y] S = kSet i { P with nx := kSet j P y } x S := by
  apply propext
  constructor
  · rintro ⟨x, y, h, p⟩
    cases h
    exact p
  · exact fun p => ⟨x, y, rfl, p⟩
theorem ex_int1 {a : Int} {P : Int → Prop} : (∃ j : Int, [D.int a] = [.int j] ∧ P j) = P a := by
  apply propext
  constructor
  · rintro ⟨x, h, p⟩
    cases h
    exact p
  · exact fun p => ⟨a, rfl, p⟩
theorem ex_int2 {a b : Int} {P : Int → Int → Prop} : (∃ i j : Int, [D.int a, D.int b] = [.int i, .int j] ∧ P i j) = P a b := by
  apply propext
  constructor
  · rintro ⟨x, y, h, p⟩
    cases h
    exact p
  · exact fun p => ⟨a, b, rfl, p⟩
theorem ex_pair {a b : D} {P : D → D → Prop} : (∃ x y, [a, b] = [x, y] ∧ P x y) = P a b := by
  apply propext
  constructor
  · rintro ⟨x, y, h, p⟩
    cases h
    exact p
  · exact fun p => ⟨a, b, rfl, p⟩
/-! ### loops: an invariant along the list -/
theorem forW_list {α : Type} (e : α → D) (I : List α → Sta → Prop) {g : PTG} {tb : PTS} {P : PEnds} (nil : ∀ S, I [] S → P.nx S)
    (cons : ∀ a r S (K : Sta → Prop), I (a :: r) S → (∀ S', I r S' → K S') → g (e a) S fun S2 => tb { P with nx := K, ct := K, bk := P.nx } S2) :
    ∀ xs S, I xs S → forW g tb P (xs.map e) S
  | [], S, h => nil S h
  | a :: r, S, h => cons a r S (forW g tb P (r.map e)) h fun S' h' => forW_list e I nil cons r S' h'
theorem forW_mem {xs : List D} {S : Sta} (I : Sta → Prop) {g : PTG} {tb : PTS} {P : PEnds} (nil : ∀ S, I S → P.nx S)
    (cons : ∀ d, d ∈ xs → ∀ S (K : Sta → Prop), I S → (∀ S', I S' → K S') → g d S fun S2 => tb { P with nx := K, ct := K, bk := P.nx } S2) (h : I S) : forW g tb P xs S := by
  have key : ∀ ys : List D, (∀ y ∈ ys, y ∈ xs) → ∀ S, I S → forW g tb P ys S := fun ys => by
    induction ys with
    | nil => exact fun _ S h => nil S h
    | cons d r ih => exact fun hm S h => cons d (hm d (List.mem_cons_self ..)) S (forW g tb P r) h (ih fun y hy => hm y (List.mem_cons_of_mem _ hy))
  exact key xs (fun _ h => h) S h
theorem forW_range {lo : Int} {n : Nat} (I : Nat → Sta → Prop) {g : PTG} {tb : PTS} {P : PEnds} (done : ∀ S, I n S → P.nx S)
    (step : ∀ i S (K : Sta → Prop), i < n → I i S → (∀ S', I (i + 1) S' → K S') → g (.int (lo + i)) S fun S2 => tb { P with nx := K, ct := K, bk := P.nx } S2)
    {S : Sta} (h : I 0 S) : forW g tb P (rangeD lo n) S := by
  have key : ∀ (m i : Nat) (S : Sta), i + m = n → I i S → forW g tb P ((List.range' i m).map fun (i : Nat) => D.int (lo + i)) S := fun m => by
    induction m with
    | zero => intro i S e h; exact done S (by have : i = n := by omega
                                              exact this ▸ h)
    | succ m ih =>
      intro i S e h
      rw [List.range'_succ, List.map_cons]
      exact step i S (forW g tb P ((List.range' (i + 1) m).map fun (i : Nat) => D.int (lo + i))) (by omega) h fun S' h' => ih (i + 1) S' (by omega) h'
  have := key n 0 S (by omega) h
  unfold rangeD
  rw [List.range_eq_range']
  exact this
theorem lcW_list {α : Type} (e : α → D) (I : List α → List D → Sta → Prop) {g : PTG} {tt : PTT} {te : PTE} {vs : List Nat} {Q : PQ} (nil : ∀ acc S, I [] acc S → Q (.lst acc) S)
    (cons : ∀ a r acc S (K : List D → Sta → Prop), I (a :: r) acc S → (∀ acc' S', I r acc' S' → K acc' S') →
      g (e a) S fun S2 => tt S2 (fun b S3 => if b = true then te S3 (fun y S4 => acc.length < sizeLine ∧ K (acc ++ [y]) (wipS S4 vs)) noX else K acc (wipS S3 vs)) noX) :
    ∀ xs acc S, I xs acc S → lcW g tt te vs Q (xs.map e) acc S
  | [], acc, S, h => nil acc S h
  | a :: r, acc, S, h => cons a r acc S (fun acc' S' => lcW g tt te vs Q (r.map e) acc' S') h fun acc' S' h' => lcW_list e I nil cons r acc' S' h'
end Pl
set_option Elab.async false
set_option linter.all false
set_option maxRecDepth 100000
set_option maxHeartbeats 4000000
/-! Pl, part 11: dict displays, get, membership in a dict -/
namespace Pl
open PySem PySem.Spec L2
/-- the pairs of a display -/
def pPairs : List (PTE × PTE) → Sta → (List (D × D) → Sta → Prop) → PX → Prop
  | [], S, Q, _ => Q [] S
  | (a, b) :: r, S, Q, E => a S (fun k S1 => b S1 (fun v S2 => pPairs r S2 (fun ps S3 => Q ((k, v) :: ps) S3) E) E) E
def mergeD (acc : List D × List D) (ps : List (D × D)) : List D × List D := ps.foldl (fun a p => dput a.1 a.2 p.1 p.2) acc
def PMP (X : Cx) (pos : Pos) (keys : List (Option Expr)) (values : List Expr) (ts : List (PTE × PTE)) : Prop := ∀ W, Takes X W → PPs X pos keys values (ts.map fun p => (lE X W p.1, lE X W p.2))
section
variable {X : Cx} {pos : Pos} {k v : Expr} {ks : List (Option Expr)} {vs : List Expr} {tk tv : PTE} {ts : List (PTE × PTE)}
theorem pmp_nil : PMP X pos [] [] [] := fun _ _ => pps_nil
theorem pmp_cons (hk : PM X k tk) (hv : PM X v tv) (hr : PMP X pos ks vs ts) : PMP X pos (some k :: ks) (v :: vs) ((tk, tv) :: ts) := fun W t => pps_cons (hk W t) (hv W t) (hr W t)
end
inductive RepP (K : PySem.W.Frag) (H : Hp) : List (V × V) → List (D × D) → Prop
  | nil : RepP K H [] []
  | cons {v w : V} {d e : D} {r : List (V × V)} {s : List (D × D)} : Rep K H v d → Rep K H w e → RepP K H r s → RepP K H ((v, w) :: r) ((d, e) :: s)
theorem RepP.length {K : PySem.W.Frag} {H : Hp} {r : List (V × V)} {s : List (D × D)} (h : RepP K H r s) : r.length = s.length := by
  induction h with
  | nil => rfl
  | cons _ _ _ ih => simp [ih]
theorem pairs_run {X : Cx} {W : WX} : ∀ {ts : List (PTE × PTE)} {σ : St} {H : Hp} {S : Sta} {R : List (V × V) → Hp → Prop} {Q : List (D × D) → Sta → Prop} {E : PX}, Rel X.K H σ S → pPairs ts S Q E →
    (∀ ps dps H' S', Nx σ S H σ S' H' → Rel X.K H' σ S' → RepP X.K H' ps dps → Q dps S' → R ps H') → UpX X.K σ S H W E → tPairs (ts.map fun p => (lE X W p.1, lE X W p.2)) σ H R
  | [], σ, H, S, R, Q, E, rel, q, up, ux => up [] [] H S .refl rel .nil q
  | (a, b) :: r, σ, H, S, R, Q, E, rel, q, up, ux => by
    refine ⟨S, _, E, rel, q, fun v d H1 S1 n1 r1 p1 q1 => ?_, ux⟩
    refine ⟨S1, _, E, r1, q1, fun w e H2 S2 n2 r2 p2 q2 => ?_, ux.thn n1⟩
    refine pairs_run r2 q2 (fun ps dps H3 S3 n3 r3 p3 q3 => ?_) (ux.thn (n1.trans n2))
    exact up _ _ _ _ ((n1.trans n2).trans n3) r3 (.cons (Rep.nx n3 (Rep.nx n2 p1)) (Rep.nx n3 p2) p3) q3
def poDisp (ts : List (PTE × PTE)) : PTO := fun S Q E => pPairs ts S (fun ps S1 => ps.length ≤ 15 ∧ (∀ p ∈ ps, (keyK p.1).isSome = true) ∧ Q (.dct (mergeD ([], []) ps).1 (mergeD ([], []) ps).2) S1) E
theorem merge_rep {K : PySem.W.Frag} {H : Hp} : ∀ {ps : List (V × V)} {dps : List (D × D)}, RepP K H ps dps → (∀ p ∈ dps, (keyK p.1).isSome = true) → ∀ {acc : List (Key × V)} {ds : List D}, RepAll K H (acc.map (·.2)) ds →
    ∃ kvs : List (Key × V), ps = kvs.map (fun kv => (kV kv.1, kv.2)) ∧ (mergeD (acc.map fun p => keyD p.1, ds) dps).1 = (mergeK acc kvs).map (fun p => keyD p.1) ∧ RepAll K H ((mergeK acc kvs).map (·.2)) (mergeD (acc.map fun p => keyD p.1, ds) dps).2
  | _, _, .nil, _, acc, ds, h => ⟨[], rfl, rfl, h⟩
  | _, _, .cons (v := v) (w := w) (d := d) (e := e) r1 r2 rr, hk, acc, ds, h => by
    obtain ⟨k, ek⟩ := Option.isSome_iff_exists.mp (hk _ (List.mem_cons_self ..))
    have ed := keyK_some ek
    have ed : d = keyD k := ed
    subst ed
    have ev := keyV r1
    subst ev
    obtain ⟨p1, p2⟩ := dput_rep (k := k) r2 h
    obtain ⟨kvs, e1, e2, e3⟩ := merge_rep rr (fun p hp => hk p (List.mem_cons_of_mem _ hp)) p2
    rw [← p1] at e2 e3
    exact ⟨(k, w) :: kvs, by rw [e1]; rfl, e2, e3⟩
section
variable {X : Cx} {pos : Pos} {keys : List (Option Expr)} {values : List Expr} {ts : List (PTE × PTE)}
theorem pmo_disp (h : PMP X pos keys values ts) (hall : keys.all (·.isSome) = true := by rfl) (hl : keys.length = values.length := by rfl) (h0 : keys ≠ [] := by exact fun h => nomatch h) (h15 : keys.length ≤ 15 := by decide) : PMO X (.Dict keys values pos) (poDisp ts) := fun W tk => weakE (pe_disp (h W tk) hall hl h0 h15) fun σ H Q => by
  rintro ⟨S, Q', E', rel, q, up, ux⟩
  intro p hp
  have s : Same H (upd H p (.dK [])) := same_new hp
  have np := rel.fresh hp
  refine pairs_run (rel.same s) q (fun ps dps H2 S2 n2 r2 p2 q2 => ?_) (ux.thn (.same s))
  obtain ⟨q15, qk, q2⟩ := q2
  have hp2 : H2 p = some (.dK []) := n2.st p _ upd_same (.inr np)
  obtain ⟨kvs, e1, e2, e3⟩ := merge_rep p2 qk (acc := []) (ds := []) .nil
  have np2 : ¬ Oa σ S2 p := fun z => by
    rcases n2.oa p z with z | z
    · exact np z
    · rw [upd_same] at z; cases z
  refine ⟨hp2, kvs, e1, ?_, ?_⟩
  · have := p2.length
    have l2 : ps.length = kvs.length := by rw [e1, List.length_map]
    omega
  have st : Step (fun b => b = p) H2 (upd H2 p (.dK (mergeK [] kvs))) := fun b o eb q => by
    by_cases hb : b = p
    · subst hb
      rw [hp2] at eb
      cases eb
      rcases q with q | q
      · exact q.elim
      · exact absurd rfl q
    · rw [upd_ne hb]; exact eb
  have rel3 := r2.step st fun a ha e => np2 (e ▸ ha)
  have n3 : Nx σ S H σ S2 (upd H2 p (.dK (mergeK [] kvs))) := ⟨fun b o eb q => by
    have hb : b ≠ p := fun e => by subst e; rw [hp] at eb; cases eb
    rw [upd_ne hb]
    exact n2.st b o (by rw [upd_ne hb]; exact eb) q, fun b eb => by
    by_cases hb : b = p
    · subst hb; exact hp
    · rw [upd_ne hb] at eb
      have := n2.kn b eb
      rwa [upd_ne hb] at this, fun a h => by
    rcases n2.oa a h with h | h
    · exact .inl h
    · right
      by_cases hb : a = p
      · subst hb; exact hp
      · rwa [upd_ne hb] at h⟩
  exact up p (.dct _ _) _ S2 n3 rel3 ⟨mergeK [] kvs, upd_same, e2, e3.step st⟩ hp np2 q2
/-- a display by value -/
def pFrzO (t : PTO) : PTE := fun S Q E => t S (fun o S1 => match o with
  | .lst xs => Q (.lst xs) S1
  | .dct ks vs => Q (.dct ks vs) S1) E
theorem pm_frzO {e : Expr} {t : PTO} (h : PMO X e t) : PM X e (pFrzO t) := fun W tk => weakE (pe_frz (h W tk)) fun σ H Q => by
  rintro ⟨S, Q', E', rel, q, up, ux⟩
  refine ⟨S, _, E', rel, q, fun a o H1 S1 n1 r1 ow hn no q1 => ?_, ux⟩
  have fin : ∀ (u : HO) (d : D) (f : Obj), H1 a = some u → ¬ Perm u → (∀ {A : Addr → Prop}, A a → Step A H1 (upd H1 a (.frz f u)) → Rep X.K (upd H1 a (.frz f u)) (.ref a) d) → Q' d S1 → Q (.ref a) (upd H1 a (.frz f u)) := fun u d f hu np rp q2 => by
    have st : Step (fun b => b = a) H1 (upd H1 a (.frz f u)) := fun b w eb q => by
      by_cases hb : b = a
      · subst hb
        rw [hu] at eb
        cases eb
        rcases q with q | q
        · exact absurd q np
        · exact absurd rfl q
      · rw [upd_ne hb]; exact eb
    have n3 : Nx σ S H σ S1 (upd H1 a (.frz f u)) := ⟨fun b w eb q => by
      have hb : b ≠ a := fun e => by subst e; rw [hn] at eb; cases eb
      rw [upd_ne hb]
      exact n1.st b w eb q, fun b eb => by
      by_cases hb : b = a
      · subst hb; exact hn
      · rw [upd_ne hb] at eb; exact n1.kn b eb, fun b h => n1.oa b h⟩
    exact up _ _ _ _ n3 (r1.step st fun b hb e => no (e ▸ hb)) (rp (A := fun b => b = a) rfl st) q2
  cases o with
  | lst xs =>
    obtain ⟨ys, h1, h2⟩ := ow
    exact .inr ⟨a, _, rfl, h1, .inl ⟨_, rfl⟩, fun f => fin _ _ f h1 (fun z => z) (fun _ st => .lst (.inl ⟨f, upd_same⟩) (h2.step st)) q1⟩
  | dct ks vs =>
    obtain ⟨kvs, h1, rfl, h2⟩ := ow
    exact .inr ⟨a, _, rfl, h1, .inr ⟨_, rfl⟩, fun f => fin _ _ f h1 (fun z => z) (fun _ st => .dct upd_same (h2.step st)) q1⟩
/-- what a dict, tracked or frozen, holds at a key -/
def dctC : Con → Option (List D × List D)
  | .val (.dct ks vs) => some (ks, vs)
  | .own (.dct ks vs) => some (ks, vs)
  | _ => none
theorem dct_get {K : PySem.W.Frag} {H : Hp} {v : V} {c : Con} {ks vs : List D} (rc : RepC K H v c) (hc : dctC c = some (ks, vs)) :
    ∃ a, v = .ref a ∧ IsD H a ∧ ∀ (w : V) (y : D), Rep K H w y → (keyK y).isSome = true → ∃ r, DGet H a w r ∧ match dget ks vs y with
      | some d => ∃ z, r = some z ∧ Rep K H z d
      | none => r = none := by
  have key : ∀ (a : Addr) (kvs : List (Key × V)), Rd H a (.dK kvs) → ks = kvs.map (fun p => keyD p.1) → RepAll K H (kvs.map (·.2)) vs → IsD H a ∧ ∀ (w : V) (y : D), Rep K H w y → (keyK y).isSome = true → ∃ r, DGet H a w r ∧ match dget ks vs y with
      | some d => ∃ z, r = some z ∧ Rep K H z d
      | none => r = none := fun a kvs hr e ra => by
    refine ⟨.inl ⟨kvs, hr⟩, fun w y ry hk => ?_⟩
    obtain ⟨k, hk⟩ := Option.isSome_iff_exists.mp hk
    have ek := keyK_some hk
    subst ek
    subst e
    have g := dget_rep (k := k) ra
    refine ⟨valV kvs k, ?_, ?_⟩
    · rw [keyV ry]; exact .inl ⟨kvs, k, hr, rfl, rfl⟩
    · split at g
      · rename_i d e; (try rw [e]); exact g
      · rename_i e; (try rw [e]); exact g
  unfold dctC at hc
  split at hc
  · cases hc
    cases rc with
    | dct h r => exact ⟨_, rfl, key _ _ (.inr ⟨_, h⟩) rfl r⟩
  · cases hc
    obtain ⟨a, rfl, kvs, h, e, r⟩ := rc
    exact ⟨a, rfl, key _ _ (.inl h) e r⟩
  · cases hc
def isDc (c : Con) : Prop := (dctC c).isSome = true
def getC (c : Con) (y z : D) (Q : D → Prop) : Prop := ∃ ks vs, dctC c = some (ks, vs) ∧ (keyK y).isSome = true ∧ Q ((dget ks vs y).getD z)
/-- d.get(k, z) -/
def pGet2 (tk : PTK) (ty tz : PTE) : PTE := fun S Q E => tk S (fun p S1 => isDc (con S1 p) ∧ ty S1 (fun y S2 => tz S2 (fun z S3 => getC (con S3 p) y z fun v => Q v S3) E) E) E
theorem pm_get2 {o e f : Expr} {apos cpos : Pos} {tk : PTK} {ty tz : PTE} (hu : X.A.units + 1 < cLine) (ho : PK X o tk) (he : PM X e ty) (hf : PM X f tz) (m : M2 X o "get" apos e f cpos) : PM X (.Call (.Attribute o "get" apos) [e, f] [] cpos) (pGet2 tk ty tz) := fun W t =>
  weakE (pe_dget2 hu (ho W t) (he W t) (hf W t) m) fun σ H Q => by
    rintro ⟨S, Q', E', rel, q, up, ux⟩
    refine ⟨S, _, E', rel, q, fun v p H1 S1 n1 r1 p1 q1 => ?_, ux⟩
    obtain ⟨q0, q1⟩ := q1
    obtain ⟨⟨ks, vs⟩, hd⟩ := Option.isSome_iff_exists.mp q0
    obtain ⟨a, rfl, hi, _⟩ := dct_get (con_rep r1 p1) hd
    refine ⟨a, rfl, hi, ⟨S1, _, E', r1, q1, fun w y H2 S2 n2 r2 p2 q2 => ⟨S2, _, E', r2, q2, fun u z H3 S3 n3 r3 p3 q3 => ?_, ux.thn (n1.trans n2)⟩, ux.thn n1⟩⟩
    obtain ⟨ks, vs, hc, hk, q3⟩ := q3
    obtain ⟨a', ea, _, g⟩ := dct_get (con_rep r3 ((p1.nx n2).nx n3)) hc
    cases ea
    obtain ⟨r, g1, g2⟩ := g w y (Rep.nx n3 p2) hk
    refine ⟨r, g1, ?_⟩
    have f := up.fin ((n1.trans n2).trans n3) r3
    split at g2
    · rename_i d e
      obtain ⟨z', rfl, rz⟩ := g2
      rw [e] at q3
      exact f.at rz q3
    · rename_i e
      subst g2
      rw [e] at q3
      exact f.at p3 q3
/-- k in d, k not in d: a dict -/
def pInK (neg : Bool) (ty : PTE) (tk : PTK) : PTE := fun S Q E => ty S (fun y S1 => tk S1 (fun p S2 => ∃ ks vs, dctC (con S2 p) = some (ks, vs) ∧ (keyK y).isSome = true ∧ Q (.bl (if neg then !(dget ks vs y).isSome else (dget ks vs y).isSome)) S2) E) E
end
def kFrz (Q : PQ) : Own → Sta → Prop := fun o S1 => match o with
  | .lst xs => Q (.lst xs) S1
  | .dct ks vs => Q (.dct ks vs) S1
theorem pFrzO_eq (t : PTO) (S : Sta) (Q : PQ) (E : PX) : pFrzO t S Q E = t S (kFrz Q) E := rfl
theorem kFrz_lst (Q : PQ) (xs : List D) (S : Sta) : kFrz Q (.lst xs) S = Q (.lst xs) S := rfl
theorem kFrz_dct (Q : PQ) (ks vs : List D) (S : Sta) : kFrz Q (.dct ks vs) S = Q (.dct ks vs) S := rfl
theorem pPairs_nil (S : Sta) (Q : List (D × D) → Sta → Prop) (E : PX) : pPairs [] S Q E = Q [] S := rfl
theorem pPairs_cons (a b : PTE) (r : List (PTE × PTE)) (S : Sta) (Q : List (D × D) → Sta → Prop) (E : PX) : pPairs ((a, b) :: r) S Q E = a S (fun k S1 => b S1 (fun v S2 => pPairs r S2 (fun ps S3 => Q ((k, v) :: ps) S3) E) E) E := rfl
theorem getC_val (S : Sta) (ks vs : List D) (y z : D) (Q : D → Prop) : getC (con S (.val (.dct ks vs))) y z Q = ((keyK y).isSome = true ∧ Q ((dget ks vs y).getD z)) := by
  apply propext
  constructor
  · rintro ⟨_, _, h, r⟩; cases h; exact r
  · exact fun r => ⟨_, _, rfl, r⟩
theorem isDc_val (S : Sta) (ks vs : List D) : isDc (con S (.val (.dct ks vs))) = True := eq_true rfl
theorem lcW_ind (I : List D → List D → Sta → Prop) {g : PTG} {tt : PTT} {te : PTE} {vs : List Nat} {Q : PQ} (nil : ∀ acc S, I [] acc S → Q (.lst acc) S)
    (cons : ∀ a r acc S (K : List D → Sta → Prop), I (a :: r) acc S → (∀ acc' S', I r acc' S' → K acc' S') →
      g a S fun S2 => tt S2 (fun b S3 => if b = true then te S3 (fun y S4 => acc.length < sizeLine ∧ K (acc ++ [y]) (wipS S4 vs)) noX else K acc (wipS S3 vs)) noX)
    (xs acc : List D) (S : Sta) (h : I xs acc S) : lcW g tt te vs Q xs acc S := by
  have := lcW_list (fun d : D => d) I (g := g) (tt := tt) (te := te) (vs := vs) (Q := Q) nil cons xs acc S h
  rwa [List.map_id'] at this
theorem forW_ind (I : List D → Sta → Prop) {g : PTG} {tb : PTS} {P : PEnds} (nil : ∀ S, I [] S → P.nx S)
    (cons : ∀ a r S (K : Sta → Prop), I (a :: r) S → (∀ S', I r S' → K S') → g a S fun S2 => tb { P with nx := K, ct := K, bk := P.nx } S2)
    (xs : List D) (S : Sta) (h : I xs S) : forW g tb P xs S := by
  have := forW_list (fun d : D => d) I (g := g) (tb := tb) (P := P) nil cons xs S h
  rwa [List.map_id'] at this
/-- list + list, kept as an own list -/
def catD (x y : D) (Q : List D → Prop) : Prop := ∃ xs ys, x = .lst xs ∧ y = .lst ys ∧ xs.length + ys.length ≤ sizeLine ∧ Q (xs ++ ys)
theorem catD_l (xs ys : List D) (Q : List D → Prop) : catD (.lst xs) (.lst ys) Q = (xs.length + ys.length ≤ sizeLine ∧ Q (xs ++ ys)) := by
  apply propext
  constructor
  · rintro ⟨_, _, h1, h2, r⟩; cases h1; cases h2; exact r
  · exact fun r => ⟨_, _, rfl, rfl, r⟩
def poCat (ta tb : PTE) : PTO := fun S Q E => ta S (fun x S1 => tb S1 (fun y S2 => catD x y fun zs => Q (.lst zs) S2) E) E
theorem pmo_cat {X : Cx} {a b : Expr} {ta tb : PTE} {pos : Pos} (ha : PM X a ta) (hb : PM X b tb) : PMO X (.BinOp a .Add b pos) (poCat ta tb) := fun W tk => weakE (pe_op op_catL (ha W tk) (hb W tk)) fun σ H Q => by
  rintro ⟨S, Q', E', rel, q, up, ux⟩
  refine ⟨S, _, E', rel, q, fun v d H1 S1 n1 r1 p1 q1 => ?_, ux⟩
  refine ⟨S1, _, E', r1, q1, fun w e H2 S2 n2 r2 p2 q2 => ?_, ux.thn n1⟩
  obtain ⟨xs, ys, rfl, rfl, hz, q2⟩ := q2
  have p1 := Rep.nx n2 p1
  cases p1 with
  | lst h1 ra =>
  cases p2 with
  | lst h2 rb =>
    rename_i a1 us a2 ws
    refine ⟨_, _, us, ws, rfl, rfl, h1.sq, h2.sq, by rw [ra.length, rb.length]; exact hz, fun p hp => ?_⟩
    have s : Same H2 (upd H2 p (.lst (us ++ ws))) := same_new hp
    have n := n1.trans n2
    exact up p (.lst (xs ++ ys)) _ _ (n.trans (.same s)) (r2.same s) ⟨us ++ ws, upd_same, (ra.append rb).step (A := fun _ => False) (Step.of_same s)⟩ (n.kn p hp) (r2.fresh hp) q2
end Pl
set_option Elab.async false
set_option linter.all false
set_option maxRecDepth 100000
set_option maxHeartbeats 4000000
/-! PlEnd: a law's end -/
namespace Pl
open PySem PySem.Spec L2
theorem exm_of {K : PySem.W.Frag} {S C : Addr} {b : Bool} (h1 : PySem.W.subIn K (.ref C) (.type "BaseException") = some true) (h2 : PySem.W.isClsIn K C = true) (h3 : PySem.W.typeIn K (.ref C) = some (.type "type")) (h4 : PySem.W.subIn K (.ref S) (.ref C) = some b) :
    PySem.W.exmOne K (.ref S) (.ref C) = some b := by
  have e1 : (PySem.W.subIn K (.ref C) (.type "BaseException") == some true) = true := by rw [h1] <;> rfl
  have e2 : ((PySem.W.clsIn K C).isSome && PySem.W.typeIn K (.ref C) == some (.type "type")) = true := by
    have h2' : (PySem.W.clsIn K C).isSome = true := h2
    rw [h2', h3] <;> rfl
  show (if (PySem.W.subIn K (.ref C) (.type "BaseException") == some true) = true then (if ((PySem.W.clsIn K C).isSome && PySem.W.typeIn K (.ref C) == some (.type "type")) = true then PySem.W.subIn K (.ref S) (.ref C) else none) else none) = some b
  rw [if_pos e1, if_pos e2]
  exact h4
theorem kit_of {K : PySem.W.Frag} {S C : Addr} (h2 : PySem.W.isClsIn K C = true) (h3 : PySem.W.typeIn K (.ref C) = some (.type "type")) (h4 : PySem.W.subIn K (.ref S) (.ref C) = some true) :
    PySem.W.kitOne K (.ref S) (.ref C) = some true := by
  have e2 : ((PySem.W.clsIn K C).isSome && PySem.W.typeIn K (.ref C) == some (.type "type")) = true := by
    have h2' : (PySem.W.clsIn K C).isSome = true := h2
    rw [h2', h3] <;> rfl
  unfold PySem.W.kitOne
  split
  · rfl
  · show (if ((PySem.W.clsIn K C).isSome && PySem.W.typeIn K (.ref C) == some (.type "type")) = true then PySem.W.subIn K (.ref S) (.ref C) else none) = some true
    rw [if_pos e2]
    exact h4
theorem gt_of {K : PySem.W.Frag} {w : World} {mg : Str → Option Value} {x : Str} {p : Addr} {tab : List (Str × D)} (hm : mg x = some (.ref p)) (h : ∀ zd, zd ∈ tab → ∃ v, KDct K w p zd.1 v ∧ ∀ H, Rep K H v zd.2) : GT K w mg x tab := by
  refine ⟨p, hm, fun z d e => ?_⟩
  have key : ∀ t : List (Str × D), t.lookup z = some d → (z, d) ∈ t := fun t => by
    induction t with
    | nil => intro h; cases h
    | cons q r ih =>
      intro h
      rw [List.lookup_cons] at h
      split at h
      · rename_i c
        have c := eq_of_beq c
        cases h
        subst c
        exact List.mem_cons_self ..
      · exact List.mem_cons_of_mem _ (ih h)
  exact h (z, d) (key tab e)
theorem low_none {P : Program} {w : World} {K : PySem.W.Frag} {mg : Str → Option Value} {base : Heap} {x : Str} {ps : List Str} {st : Stmt} {k n : Nat} {φ : PFn} (T : TopD K mg x ps st) (hn : ps.length = n) (h : ∀ ds Wo Q E, ¬ φ ds Wo Q E) : CallF P w K mg base x n k φ := by
  subst hn
  exact (call_none T).wk fun ds Wo Q E z => h ds Wo Q E z
/-- a callee's promise for less deep things -/
def lowφ (m : Nat) (φ : Nat → PFn) (d : Nat) : PFn := fun ds W Q E => m ≤ d ∧ φ (d - 1) ds W Q E
/-- the given list -/
theorem script_rep {K : PySem.W.Frag} {H : Hp} {a : Addr} {ns : List Int} (hO : Only H) (hS : SqL K H a (ns.map V.int)) : Rep K H (.ref a) (.lst (ns.map D.int)) := by
  have ra : RepAll K H (ns.map V.int) (ns.map D.int) := by
    clear hS
    induction ns with
    | nil => exact .nil
    | cons n r ih => exact .cons (.int n) ih
  refine .lst ?_ ra
  rcases hS with (h | h) | h
  · rcases hO a with e | ⟨o, xs, e⟩
    · rw [e] at h; cases h
    · rw [e] at h; cases h
  · exact .inl h
  · exact .inr h
theorem law_sp {K : PySem.W.Frag} {H : Hp} {a : Addr} {ns : List Int} {φ : PFn} (hφ : ∀ (ds : List D) Wo (Q : D → (Addr → Option Own) → Prop) E, ds = [.lst (ns.map D.int)] → (∀ W', Q (.bl true) W') → φ ds Wo Q E) (hO : Only H) (hS : SqL K H a (ns.map V.int)) :
    spP K 1 φ [.ref a] H (fun v _ => v = .bl true) fun _ _ _ => False := by
  refine ⟨[.lst (ns.map D.int)], fun _ => none, fun d _ => d = .bl true, fun _ _ => False, rfl, .cons (script_rep hO hS) .nil, fun _ _ h => by (cases h), hφ _ _ _ _ rfl fun _ => rfl, fun v d H' W' _ _ r e => ?_, fun _ _ _ _ _ _ _ _ h => h⟩
  subst e
  cases r
  rfl
theorem cx_end {P : Program} {w : World} {H : Hp} {s : Shared} {e : Value} {s' : Shared} (h : L2.CX P w [] H s (fun _ _ _ => False) e s') : False := by
  obtain ⟨_, _, _, _, _, _, _, _, _, _, _, _, h⟩ := h
  exact h
end Pl
set_option Elab.async false
set_option linter.all false
set_option maxRecDepth 100000
set_option maxHeartbeats 4000000
/-! Rl: runs. A second reading of a derivation: a function that tells what a def returns, and that is sound for the first reading. -/
namespace Pl
open PySem PySem.Spec L2
abbrev Wt := Addr → Option Own
/-- how a def ends -/
inductive Out where
  | rt (d : D) (W : Wt) | ex (x : Exn) (W : Wt) | bad
structure Ks where
  nx : Sta → Out
  rt : D → Sta → Out
  bk : Sta → Out
  ct : Sta → Out
  ex : Exn → Sta → Out
abbrev RX := Exn → Sta → Out
abbrev RG (α : Type) := Sta → (α → Sta → Out) → RX → Out
abbrev RE := RG D
abbrev RT := RG Bool
abbrev RA := RG (List D)
abbrev RS := Ks → Sta → Out
abbrev Tg (α : Type) := Sta → (α → Sta → Prop) → PX → Prop
/-- r is sound for t -/
def Snd {α : Type} (t : Tg α) (r : RG α) : Prop := ∀ (A : Out → Prop), ¬ A .bad → ∀ S k e (Q : α → Sta → Prop) (E : PX), (∀ a S1, A (k a S1) → Q a S1) → (∀ x S1, A (e x S1) → E x S1) → A (r S k e) → t S Q E
structure Acc (A : Out → Prop) (K : Ks) (P : PEnds) : Prop where
  nx : ∀ S, A (K.nx S) → P.nx S
  rt : ∀ d S, A (K.rt d S) → P.rt d S
  bk : ∀ S, A (K.bk S) → P.bk S
  ct : ∀ S, A (K.ct S) → P.ct S
  ex : ∀ x S, A (K.ex x S) → P.ex x S
def SndS (t : PTS) (r : RS) : Prop := ∀ (A : Out → Prop), ¬ A .bad → ∀ K P S, Acc A K P → A (r K S) → t P S
def RM (X : Cx) (e : Expr) (r : RE) : Prop := ∃ t, PM X e t ∧ Snd t r
def RMT (X : Cx) (e : Expr) (r : RT) : Prop := ∃ t, PMT X e t ∧ Snd t r
def RMW (X : Cx) (e : Expr) (r : RT) : Prop := ∃ t, PMW X e t ∧ Snd t r
def RMTs (X : Cx) (e : List Expr) (r : RT) : Prop := ∃ t, PMTs X e t ∧ Snd t r
def RMA (X : Cx) (e : List Expr) (r : RA) : Prop := ∃ t, PMA X e t ∧ Snd t r
def RMK (X : Cx) (e : Expr) (r : RG Pk) : Prop := ∃ t, PK X e t ∧ Snd t r
def RMI (X : Cx) (tg e : Expr) (r : RA) : Prop := ∃ t, PMI X tg e t ∧ Snd t r
def RMO (X : Cx) (e : Expr) (r : RG Own) : Prop := ∃ t, PMO X e t ∧ Snd t r
def RMS (X : Cx) (st : Stmt) (r : RS) : Prop := ∃ t, PMS X st t ∧ SndS t r
def RMSs (X : Cx) (st : List Stmt) (r : RS) : Prop := ∃ t, PMSs X st t ∧ SndS t r
/-! ### operators by values, as functions -/
def OpF (X : Cx) (g : Value → Value → Sem Value) (f : D → D → Option D) : Prop := ∃ o, OpD X g o ∧ ∀ x y z (Q : D → Prop), f x y = some z → Q z → o x y Q
def UnF (X : Cx) (g : Value → Sem Value) (f : D → Option D) : Prop := ∃ o, UnD X g o ∧ ∀ x z (Q : D → Prop), f x = some z → Q z → o x Q
def CallFn (X : Cx) (v : Value) (f : List D → Option D) : Prop := ∃ o, CallD X v o ∧ ∀ x z (Q : D → Prop), f x = some z → Q z → o x Q
/-- on, or bad -/
def thnO {β : Type} (o : Option β) (k : β → Out) : Out := match o with
  | some z => k z
  | none => .bad
theorem thnO_some {β : Type} (z : β) (k : β → Out) : thnO (some z) k = k z := rfl
theorem thnO_ok {β : Type} {A : Out → Prop} (nb : ¬ A .bad) {o : Option β} {k : β → Out} (h : A (thnO o k)) : ∃ z, o = some z ∧ A (k z) := by
  cases o with
  | none => exact absurd h nb
  | some z => exact ⟨z, rfl, h⟩
def fAdd (x y : D) : Option D := match x, y with
  | .int i, .int j => some (.int (i + j))
  | .str x, .str y => if x.length + y.length ≤ sizeLine then some (.str (x ++ y)) else none
  | .tup xs, .tup ys => if xs.length + ys.length ≤ sizeLine then some (.tup (xs ++ ys)) else none
  | .lst xs, .lst ys => if xs.length + ys.length ≤ sizeLine then some (.lst (xs ++ ys)) else none
  | _, _ => none
def fInt (C : Int → Int → Bool) (g : Int → Int → Int) (x y : D) : Option D := match x, y with
  | .int i, .int j => if C i j = true then some (.int (g i j)) else none
  | _, _ => none
def fCmp (g : Int → Int → Bool) (x y : D) : Option D := match x, y with
  | .int i, .int j => some (.bl (g i j))
  | _, _ => none
def fNeg (x : D) : Option D := match x with
  | .int i => some (.int (-i))
  | _ => none
def fEq (x y : D) : Option D := if x.good = true ∧ y.good = true then some (.bl (eqD x y)) else none
def fNe (x y : D) : Option D := if x.good = true ∧ y.good = true then some (.bl (!eqD x y)) else none
def inB (neg : Bool) (b : Bool) : D := .bl (if neg then !b else b)
def fIn (neg : Bool) (x y : D) : Option D := match y with
  | .tup ys => if x.good = true ∧ D.good (.tup ys) = true then some (inB neg (ys.any fun z => eqD z x)) else none
  | .lst ys => if x.good = true ∧ D.good (.lst ys) = true then some (inB neg (ys.any fun z => eqD z x)) else none
  | .str t => match x with
    | .str w => some (inB neg (!(Builtin.Str.occurrences t w 0 t.length 1).isEmpty))
    | _ => none
  | _ => none
def fIsN (neg : Bool) (x y : D) : Option D := match y with
  | .non => some (inB neg x.isN)
  | _ => none
def fIx (x y : D) : Option D := match x, y with
  | .tup xs, .int i => atI xs i
  | .lst xs, .int i => atI xs i
  | .str z, .int i => if z.length ≤ sizeLine then (atI z.cps.toList i).map fun c => .str ⟨#[c]⟩ else none
  | _, _ => none
def fSl (x : D) (lo hi : Option Int) : Option D := match x with
  | .tup xs => some (.tup (cutD xs lo hi))
  | .lst xs => some (.lst (cutD xs lo hi))
  | _ => none
def fLen (x : D) : Option D := match x with
  | .tup xs => some (.int xs.length)
  | .lst xs => some (.int xs.length)
  | .str z => if z.length ≤ sizeLine then some (.int z.length) else none
  | _ => none
def f1I (g : Int → Int) (ds : List D) : Option D := match ds with
  | [.int i] => some (.int (g i))
  | _ => none
def f2I (g : Int → Int → Int) (ds : List D) : Option D := match ds with
  | [.int i, .int j] => some (.int (g i j))
  | _ => none
def fSum (ds : List D) : Option D := match ds with
  | [.lst xs] => (intsD xs).map fun ns => .int ns.sum
  | _ => none
def fAll (ds : List D) : Option D := match ds with
  | [.lst xs] => (blsD xs).map fun ns => .bl (ns.all id)
  | _ => none
def fAny (ds : List D) : Option D := match ds with
  | [.lst xs] => (blsD xs).map fun ns => .bl (ns.any id)
  | _ => none
def fList (ds : List D) : Option D := match ds with
  | [.tup xs] => some (.lst xs)
  | [.lst xs] => some (.lst xs)
  | _ => none
def fTuple (ds : List D) : Option D := match ds with
  | [.tup xs] => some (.tup xs)
  | [.lst xs] => some (.tup xs)
  | _ => none
def fIsi (ds : List D) : Option D := match ds with
  | [x, .ty T] => if x.dat = true ∧ isiT T = true then some (.bl (isiB x T)) else none
  | _ => none
def cMul (i j : Int) : Bool := (decide (-(2 ^ 64) < i) && decide (i < 2 ^ 64)) || (decide (-(2 ^ 64) < j) && decide (j < 2 ^ 64))
def cDv (_ j : Int) : Bool := decide (0 < j) && decide (j < 2 ^ 200)
def cMod (_ j : Int) : Bool := decide (0 < j)
def cPow (i j : Int) : Bool := decide (0 ≤ j) && decide (j ≤ 1000000) && decide (i.natAbs < 2 ^ 64)
def cAny (_ _ : Int) : Bool := true
def gPow (i j : Int) : Int := i ^ j.toNat
section
variable {X : Cx}
theorem of_some {α : Type} {c : Prop} [Decidable c] {a b : α} (h : (if c then some a else none) = some b) : c ∧ a = b := by
  split at h
  · rename_i hc; exact ⟨hc, Option.some.inj h⟩
  · cases h
theorem of_add : OpF X (binaryOp .Add) fAdd := ⟨_, od_add, fun x y z Q h q => by
  unfold fAdd at h
  split at h
  · cases h; exact q
  · obtain ⟨hc, rfl⟩ := of_some h; exact ⟨hc, q⟩
  · obtain ⟨hc, rfl⟩ := of_some h; exact ⟨hc, q⟩
  · obtain ⟨hc, rfl⟩ := of_some h; exact ⟨hc, q⟩
  · cases h⟩
theorem of_int {g : Value → Value → Sem Value} {C : Int → Int → Prop} {c : Int → Int → Bool} {f : Int → Int → Int} (h : OpD X g (oInt C f)) (hc : ∀ i j, c i j = true → C i j) : OpF X g (fInt c f) := ⟨_, h, fun x y z Q h q => by
  unfold fInt at h
  split at h
  · obtain ⟨h1, rfl⟩ := of_some h; exact ⟨hc _ _ h1, q⟩
  · cases h⟩
theorem of_sub : OpF X (binaryOp .Sub) (fInt cAny fun i j => i - j) := of_int od_sub fun _ _ _ => trivial
theorem of_mul : OpF X (binaryOp .Mult) (fInt cMul fun i j => i * j) := of_int od_mul fun i j h => by
  simp only [cMul, Bool.or_eq_true, Bool.and_eq_true, decide_eq_true_eq] at h
  exact h
theorem of_fdiv : OpF X (binaryOp .FloorDiv) (fInt cDv fun i j => i / j) := of_int od_fdiv fun i j h => by
  simp only [cDv, Bool.and_eq_true, decide_eq_true_eq] at h
  exact h
theorem of_mod : OpF X (binaryOp .Mod) (fInt cMod fun i j => i % j) := of_int od_mod fun i j h => by
  simpa only [cMod, decide_eq_true_eq] using h
theorem of_pow : OpF X (binaryOp .Pow) (fInt cPow gPow) := of_int od_pow fun i j h => by
  simp only [cPow, Bool.and_eq_true, decide_eq_true_eq] at h
  exact ⟨h.1.1, h.1.2, h.2⟩
theorem of_cmp {g : Value → Value → Sem Value} {f : Int → Int → Bool} (h : OpD X g (oCmp f)) : OpF X g (fCmp f) := ⟨_, h, fun x y z Q h q => by
  unfold fCmp at h
  split at h
  · cases h; exact q
  · cases h⟩
theorem of_lt : OpF X (compareOp .Lt) (fCmp fun i j => decide (i < j)) := of_cmp od_lt
theorem of_le : OpF X (compareOp .LtE) (fCmp fun i j => decide (i ≤ j)) := of_cmp od_le
theorem of_gt : OpF X (compareOp .Gt) (fCmp fun i j => decide (j < i)) := of_cmp od_gt
theorem of_ge : OpF X (compareOp .GtE) (fCmp fun i j => decide (j ≤ i)) := of_cmp od_ge
theorem uf_neg : UnF X (unaryOp .USub) fNeg := ⟨_, ud_neg, fun x z Q h q => by
  unfold fNeg at h
  split at h
  · cases h; exact q
  · cases h⟩
theorem of_eq (hu : X.A.units + 64 < cLine) : OpF X (compareOp .Eq) fEq := ⟨_, od_eq hu, fun x y z Q h q => by
  obtain ⟨hc, rfl⟩ := of_some h; exact ⟨hc.1, hc.2, q⟩⟩
theorem of_ne (hu : X.A.units + 64 < cLine) : OpF X (compareOp .NotEq) fNe := ⟨_, od_ne hu, fun x y z Q h q => by
  obtain ⟨hc, rfl⟩ := of_some h; exact ⟨hc.1, hc.2, q⟩⟩
theorem in_sound {neg : Bool} {x y z : D} {Q : D → Prop} (h : fIn neg x y = some z) (q : Q z) : oIn neg x y Q := by
  unfold fIn at h
  split at h
  · obtain ⟨hc, rfl⟩ := of_some h; exact ⟨hc.1, hc.2, q⟩
  · obtain ⟨hc, rfl⟩ := of_some h; exact ⟨hc.1, hc.2, q⟩
  · split at h
    · cases h; exact q
    · cases h
  · cases h
theorem of_in (hu : X.A.units + 65 < cLine) : OpF X (compareOp .In) (fIn false) := ⟨_, od_in hu, fun _ _ _ _ h q => in_sound h q⟩
theorem of_notIn (hu : X.A.units + 65 < cLine) : OpF X (compareOp .NotIn) (fIn true) := ⟨_, od_notIn hu, fun _ _ _ _ h q => in_sound h q⟩
theorem isN_sound {neg : Bool} {x y z : D} {Q : D → Prop} (h : fIsN neg x y = some z) (q : Q z) : oIsN neg x y Q := by
  unfold fIsN at h
  split at h
  · cases h; exact q
  · cases h
theorem of_isN : OpF X (compareOp .Is) (fIsN false) := ⟨_, od_isN, fun _ _ _ _ h q => isN_sound h q⟩
theorem of_notN : OpF X (compareOp .IsNot) (fIsN true) := ⟨_, od_notN, fun _ _ _ _ h q => isN_sound h q⟩
theorem ix_sound {x y z : D} {Q : D → Prop} (h : fIx x y = some z) (q : Q z) : oIx x y Q := by
  unfold fIx at h
  split at h
  · exact ⟨_, h, q⟩
  · exact ⟨_, h, q⟩
  · split at h
    · rename_i hc
      obtain ⟨c, h1, rfl⟩ := Option.map_eq_some_iff.mp h
      exact ⟨hc, c, h1, q⟩
    · cases h
  · cases h
theorem sl_sound {x z : D} {lo hi : Option Int} {Q : D → Prop} (h : fSl x lo hi = some z) (q : Q z) : oSl x lo hi Q := by
  unfold fSl at h
  split at h
  · cases h; exact q
  · cases h; exact q
  · cases h
theorem len_sound {x z : D} {Q : D → Prop} (h : fLen x = some z) (q : Q z) : oLen [x] Q := by
  unfold fLen at h
  split at h
  · cases h; exact q
  · cases h; exact q
  · obtain ⟨hc, rfl⟩ := of_some h; exact ⟨hc, q⟩
  · cases h
theorem cf_1 {v : Value} {g : Int → Int} (h : CallD X v (o1I g)) : CallFn X v (f1I g) := ⟨_, h, fun x z Q h q => by
  unfold f1I at h
  split at h
  · cases h; exact q
  · cases h⟩
theorem cf_2 {v : Value} {g : Int → Int → Int} (h : CallD X v (o2I g)) : CallFn X v (f2I g) := ⟨_, h, fun x z Q h q => by
  unfold f2I at h
  split at h
  · cases h; exact q
  · cases h⟩
theorem cf_abs : CallFn X (.builtin "abs") (f1I fun i => if i < 0 then -i else i) := cf_1 cd_abs
theorem cf_int : CallFn X (.type "int") (f1I fun i => i) := cf_1 cd_int
theorem cf_max2 (hc : X.calm = true) : CallFn X (.builtin "max") (f2I fun i j => if j > i then j else i) := cf_2 (cd_max2 hc)
theorem cf_min2 (hc : X.calm = true) : CallFn X (.builtin "min") (f2I fun i j => if j < i then j else i) := cf_2 (cd_min2 hc)
theorem cf_sum (hc : X.calm = true) : CallFn X (.builtin "sum") fSum := ⟨_, cd_sum hc, fun x z Q h q => by
  unfold fSum at h
  split at h
  · obtain ⟨c, h1, rfl⟩ := Option.map_eq_some_iff.mp h; exact ⟨_, c, rfl, h1, q⟩
  · cases h⟩
theorem cf_all (hc : X.calm = true) : CallFn X (.builtin "all") fAll := ⟨_, cd_all hc, fun x z Q h q => by
  unfold fAll at h
  split at h
  · obtain ⟨c, h1, rfl⟩ := Option.map_eq_some_iff.mp h; exact ⟨_, c, rfl, h1, q⟩
  · cases h⟩
theorem cf_any (hc : X.calm = true) : CallFn X (.builtin "any") fAny := ⟨_, cd_any hc, fun x z Q h q => by
  unfold fAny at h
  split at h
  · obtain ⟨c, h1, rfl⟩ := Option.map_eq_some_iff.mp h; exact ⟨_, c, rfl, h1, q⟩
  · cases h⟩
theorem cf_list : CallFn X (.type "list") fList := ⟨_, cd_list, fun x z Q h q => by
  unfold fList at h
  split at h
  · cases h; exact q
  · cases h; exact q
  · cases h⟩
theorem cf_tuple : CallFn X (.type "tuple") fTuple := ⟨_, cd_tuple, fun x z Q h q => by
  unfold fTuple at h
  split at h
  · cases h; exact q
  · cases h; exact q
  · cases h⟩
theorem cf_isi : CallFn X (.builtin "isinstance") fIsi := ⟨_, cd_isi, fun x z Q h q => by
  unfold fIsi at h
  split at h
  · obtain ⟨hc, rfl⟩ := of_some h; exact ⟨hc.1, hc.2, q⟩
  · cases h⟩
end
end Pl
set_option Elab.async false
set_option linter.all false
set_option maxRecDepth 100000
set_option maxHeartbeats 4000000
/-! RlE: runs of expressions -/
namespace Pl
open PySem PySem.Spec L2
def fSub (x y : D) : Option D := fInt cAny (fun i j => i - j) x y
def fMul (x y : D) : Option D := fInt cMul (fun i j => i * j) x y
def fDiv (x y : D) : Option D := fInt cDv (fun i j => i / j) x y
def fMod (x y : D) : Option D := fInt cMod (fun i j => i % j) x y
def fPow (x y : D) : Option D := fInt cPow gPow x y
def fLt (x y : D) : Option D := fCmp (fun i j => decide (i < j)) x y
def fLe (x y : D) : Option D := fCmp (fun i j => decide (i ≤ j)) x y
def fGt (x y : D) : Option D := fCmp (fun i j => decide (j < i)) x y
def fGe (x y : D) : Option D := fCmp (fun i j => decide (j ≤ i)) x y
def gAbs (i : Int) : Int := if i < 0 then -i else i
def gId (i : Int) : Int := i
def gMax (i j : Int) : Int := if j > i then j else i
def gMin (i j : Int) : Int := if j < i then j else i
def fAbs (ds : List D) : Option D := f1I gAbs ds
def fInt1 (ds : List D) : Option D := f1I gId ds
def fMax2 (ds : List D) : Option D := f2I gMax ds
def fMin2 (ds : List D) : Option D := f2I gMin ds
section
variable {X : Cx}
theorem rf_sub : OpF X (binaryOp .Sub) fSub := of_sub
theorem rf_mul : OpF X (binaryOp .Mult) fMul := of_mul
theorem rf_fdiv : OpF X (binaryOp .FloorDiv) fDiv := of_fdiv
theorem rf_mod : OpF X (binaryOp .Mod) fMod := of_mod
theorem rf_pow : OpF X (binaryOp .Pow) fPow := of_pow
theorem rf_lt : OpF X (compareOp .Lt) fLt := of_lt
theorem rf_le : OpF X (compareOp .LtE) fLe := of_le
theorem rf_gt : OpF X (compareOp .Gt) fGt := of_gt
theorem rf_ge : OpF X (compareOp .GtE) fGe := of_ge
theorem rf_abs : CallFn X (.builtin "abs") fAbs := cf_abs
theorem rf_int : CallFn X (.type "int") fInt1 := cf_int
theorem rf_max2 (hc : X.calm = true) : CallFn X (.builtin "max") fMax2 := cf_max2 hc
theorem rf_min2 (hc : X.calm = true) : CallFn X (.builtin "min") fMin2 := cf_min2 hc
end
def rC (d : D) : RE := fun S k _ => k d S
def rVar (i : Nat) : RE := fun S k _ => match S.ρ[i]? with
  | some (.val d) => k d S
  | some (.own (.lst xs)) => k (.lst xs) ⟨S.ρ.set i (.val (.lst xs)), S.W⟩
  | some (.own (.dct ks vs)) => k (.dct ks vs) ⟨S.ρ.set i (.val (.dct ks vs)), S.W⟩
  | _ => .bad
def rOp (f : D → D → Option D) (ra rb : RE) : RE := fun S k e => ra S (fun x S1 => rb S1 (fun y S2 => thnO (f x y) fun z => k z S2) e) e
def rUn (f : D → Option D) (ra : RE) : RE := fun S k e => ra S (fun x S1 => thnO (f x) fun z => k z S1) e
def rPart : Option RE → RG (Option Int)
  | none => fun S k _ => k none S
  | some r => fun S k e => r S (fun d S1 => match d with
    | .int i => k (some i) S1
    | _ => .bad) e
def rSl (ra : RE) (lo hi : Option RE) : RE := fun S k e => ra S (fun x S1 => rPart lo S1 (fun l S2 => rPart hi S2 (fun h S3 => thnO (fSl x l h) fun z => k z S3) e) e) e
def rNil : RA := fun S k _ => k [] S
def rCons (r : RE) (u : RA) : RA := fun S k e => r S (fun x S1 => u S1 (fun xs S2 => k (x :: xs) S2) e) e
def rTup (t : RA) : RE := fun S k e => t S (fun ds S1 => if ds.length ≤ sizeLine then k (.tup ds) S1 else .bad) e
def rLst (t : RA) : RE := fun S k e => t S (fun ds S1 => if ds.length ≤ sizeLine then k (.lst ds) S1 else .bad) e
def rCallB (f : List D → Option D) (t : RA) : RE := fun S k e => t S (fun ds S1 => thnO (f ds) fun z => k z S1) e
def blK (d : D) (k : Bool → Out) : Out := match d with
  | .bl b => k b
  | _ => .bad
def rTest (r : RE) : RT := fun S k e => r S (fun d S1 => blK d fun b => k b S1) e
def rNot (t : RT) : RT := fun S k e => t S (fun b S1 => k (!b) S1) e
def rAnd (t u : RT) : RT := fun S k e => t S (fun b S1 => if b = true then u S1 k e else k false S1) e
def rOr (t u : RT) : RT := fun S k e => t S (fun b S1 => if b = true then k true S1 else u S1 k e) e
def rAndV (ra rb : RE) : RE := fun S k e => ra S (fun x S1 => blK x fun c => if c = true then rb S1 k e else k (.bl false) S1) e
def rOrV (ra rb : RE) : RE := fun S k e => ra S (fun x S1 => blK x fun c => if c = true then k (.bl true) S1 else rb S1 k e) e
def rNotV (ra : RE) : RE := fun S k e => ra S (fun x S1 => blK x fun c => k (.bl (!c)) S1) e
def rIf (t : RT) (ra rb : RE) : RE := fun S k e => t S (fun b S1 => if b = true then ra S1 k e else rb S1 k e) e
def rChain (f g : D → D → Option D) (ra rb rc : RE) : RE := fun S k e => ra S (fun x S1 => rb S1 (fun y S2 => thnO (f x y) fun z => blK z fun c => if c = true then rc S2 (fun w S3 => thnO (g y w) fun u => k u S3) e else k (.bl false) S2) e) e
section
variable {X : Cx} {a b c e : Expr} {es : List Expr} {ra rb rc r : RE} {rt ru : RT} {u : RA} {pos : Pos}
theorem blK_ok {A : Out → Prop} (nb : ¬ A .bad) {d : D} {k : Bool → Out} (h : A (blK d k)) : ∃ b, d = .bl b ∧ A (k b) := by
  unfold blK at h
  split at h
  · exact ⟨_, rfl, h⟩
  · exact absurd h nb
theorem bad_if {A : Out → Prop} (nb : ¬ A .bad) {c : Prop} [Decidable c] {o : Out} (h : A (if c then o else .bad)) : c ∧ A o := by
  split at h
  · rename_i hc; exact ⟨hc, h⟩
  · exact absurd h nb
theorem rm_c {d : D} (h : PM X e (pC d)) : RM X e (rC d) := ⟨_, h, fun A nb S k ex Q E hk he q => hk _ _ q⟩
theorem rm_int {i j pos} : RM X (.Constant (.int i) j pos) (rC (.int i)) := rm_c pm_int
theorem rm_bl {b j pos} : RM X (.Constant (.bool b) j pos) (rC (.bl b)) := rm_c pm_bl
theorem rm_non {j pos} : RM X (.Constant .none j pos) (rC .non) := rm_c pm_non
theorem rm_str {x j pos} : RM X (.Constant (.str x) j pos) (rC (.str x)) := rm_c pm_str
theorem rm_var {i : Nat} (h : PE X e (tVar i)) : RM X e (rVar i) := ⟨_, pm_var h, fun A nb S k ex Q E hk he q => by
  unfold rVar at q
  unfold pVar
  split at q
  · rename_i h1; (try simp only [h1]); exact hk _ _ q
  · rename_i h1; (try simp only [h1]); exact hk _ _ q
  · rename_i h1; (try simp only [h1]); exact hk _ _ q
  · exact absurd q nb⟩
theorem snd_op {o : Op2} {f : D → D → Option D} {ta tb : PTE} (h : ∀ x y z (Q : D → Prop), f x y = some z → Q z → o x y Q) (ha : Snd ta ra) (hb : Snd tb rb) : Snd (pOp o ta tb) (rOp f ra rb) := fun A nb S k ex Q E hk he q =>
  ha A nb S _ ex _ E (fun x S1 q1 => hb A nb S1 _ ex _ E (fun y S2 q2 => by
    obtain ⟨z, e1, e2⟩ := thnO_ok nb q2
    exact h _ _ _ _ e1 (hk _ _ e2)) he q1) he q
theorem rm_op {op : Operator} {f : D → D → Option D} (ho : OpF X (binaryOp op) f) (ha : RM X a ra) (hb : RM X b rb) : RM X (.BinOp a op b pos) (rOp f ra rb) := by
  obtain ⟨o, ho, h⟩ := ho; obtain ⟨ta, pa, sa⟩ := ha; obtain ⟨tb, pb, sb⟩ := hb
  exact ⟨_, pm_op ho pa pb, snd_op h sa sb⟩
theorem rm_un {op : UnaryOp} {f : D → Option D} (ho : UnF X (unaryOp op) f) (ha : RM X a ra) : RM X (.UnaryOp op a pos) (rUn f ra) := by
  obtain ⟨o, ho, h⟩ := ho; obtain ⟨ta, pa, sa⟩ := ha
  exact ⟨_, pm_un ho pa, fun A nb S k ex Q E hk he q => sa A nb S _ ex _ E (fun x S1 q1 => by
    obtain ⟨z, e1, e2⟩ := thnO_ok nb q1
    exact h _ _ _ e1 (hk _ _ e2)) he q⟩
theorem rm_cmp {op : CmpOp} {f : D → D → Option D} (ho : OpF X (compareOp op) f) (ha : RM X a ra) (hb : RM X b rb) (h1 : behindInMarks op b = false) : RM X (.Compare a [op] [b] pos) (rOp f ra rb) := by
  obtain ⟨o, ho, h⟩ := ho; obtain ⟨ta, pa, sa⟩ := ha; obtain ⟨tb, pb, sb⟩ := hb
  exact ⟨_, pm_cmp ho pa pb h1, snd_op h sa sb⟩
theorem rm_chain {op op' : CmpOp} {f g : D → D → Option D} (ho : OpF X (compareOp op) f) (ho' : OpF X (compareOp op') g) (ha : RM X a ra) (hb : RM X b rb) (hc : RM X c rc) (hm : lastMarks [op, op'] [b, c] = false := by with_unfolding_all rfl) :
    RM X (.Compare a [op, op'] [b, c] pos) (rChain f g ra rb rc) := by
  obtain ⟨o, ho, h⟩ := ho; obtain ⟨o', ho', h'⟩ := ho'; obtain ⟨ta, pa, sa⟩ := ha; obtain ⟨tb, pb, sb⟩ := hb; obtain ⟨tc, pc, sc⟩ := hc
  exact ⟨_, pm_chain ho ho' pa pb pc hm, fun A nb S k ex Q E hk he q => sa A nb S _ ex _ E (fun x S1 q1 => sb A nb S1 _ ex _ E (fun y S2 q2 => by
    obtain ⟨z, e1, e2⟩ := thnO_ok nb q2
    refine h _ _ _ _ e1 ?_
    obtain ⟨b, rfl, e3⟩ := blK_ok nb e2
    refine ⟨b, rfl, ?_⟩
    cases b with
    | true => exact sc A nb S2 _ ex _ E (fun w S3 q3 => by
        obtain ⟨u, e4, e5⟩ := thnO_ok nb q3
        exact h' _ _ _ _ e4 (hk _ _ e5)) he e3
    | false => exact hk _ _ e3) he q1) he q⟩
def ROX (X : Cx) (lo : Option Expr) (t : Option RE) : Prop := (lo = none ∧ t = none) ∨ ∃ e te, lo = some e ∧ t = some te ∧ RM X e te
theorem part_snd {lo : Option Expr} {t : Option RE} (h : ROX X lo t) : ∃ t', POX X lo t' ∧ Snd (pPart t') (rPart t) := by
  rcases h with ⟨rfl, rfl⟩ | ⟨e, te, rfl, rfl, t', h1, h2⟩
  · exact ⟨none, .inl ⟨rfl, rfl⟩, fun A nb S k ex Q E hk he q => hk _ _ q⟩
  · refine ⟨some t', .inr ⟨_, _, rfl, rfl, h1⟩, fun A nb S k ex Q E hk he q => h2 A nb S _ ex _ E (fun d S1 q1 => ?_) he q⟩
    split at q1
    · exact ⟨_, rfl, hk _ _ q1⟩
    · exact absurd q1 nb
theorem rm_slice {lo hi : Option Expr} {rl rh : Option RE} {p2 : Pos} (ha : RM X a ra) (hl : ROX X lo rl) (hh : ROX X hi rh) : RM X (.Subscript a (.Slice lo hi none p2) pos) (rSl ra rl rh) := by
  obtain ⟨ta, pa, sa⟩ := ha; obtain ⟨tl, pl, sl⟩ := part_snd hl; obtain ⟨th, ph, sh⟩ := part_snd hh
  exact ⟨_, pm_slice sld pa pl ph, fun A nb S k ex Q E hk he q => sa A nb S _ ex _ E (fun x S1 q1 => sl A nb S1 _ ex _ E (fun l S2 q2 => sh A nb S2 _ ex _ E (fun u S3 q3 => by
    obtain ⟨z, e1, e2⟩ := thnO_ok nb q3
    exact sl_sound e1 (hk _ _ e2)) he q2) he q1) he q⟩
theorem rma_nil : RMA X [] rNil := ⟨_, pma_nil, fun A nb S k ex Q E hk he q => hk _ _ q⟩
theorem rma_cons (ha : RM X e r) (hr : RMA X es u) (hs : starEach (e :: es) X.env = (false, eval e X.env) :: starEach es X.env := by rfl) : RMA X (e :: es) (rCons r u) := by
  obtain ⟨ta, pa, sa⟩ := ha; obtain ⟨tb, pb, sb⟩ := hr
  exact ⟨_, pma_cons pa pb hs, fun A nb S k ex Q E hk he q => sa A nb S _ ex _ E (fun x S1 q1 => sb A nb S1 _ ex _ E (fun y S2 q2 => hk _ _ q2) he q1) he q⟩
theorem rm_tup {n : Nat} (h : RMA X es u) : RM X (.Tuple es n pos) (rTup u) := by
  obtain ⟨ta, pa, sa⟩ := h
  exact ⟨_, pm_tup pa, fun A nb S k ex Q E hk he q => sa A nb S _ ex _ E (fun x S1 q1 => by
    obtain ⟨h1, h2⟩ := bad_if nb q1
    exact ⟨h1, hk _ _ h2⟩) he q⟩
theorem rm_lst (h : RMA X es u) : RM X (.List es pos) (rLst u) := by
  obtain ⟨ta, pa, sa⟩ := h
  exact ⟨_, pm_lst pa, fun A nb S k ex Q E hk he q => sa A nb S _ ex _ E (fun x S1 q1 => by
    obtain ⟨h1, h2⟩ := bad_if nb q1
    exact ⟨h1, hk _ _ h2⟩) he q⟩
theorem snd_callB {o : OpN} {f : List D → Option D} {t : PTA} (h : ∀ x z (Q : D → Prop), f x = some z → Q z → o x Q) (ha : Snd t u) : Snd (pCallB o t) (rCallB f u) := fun A nb S k ex Q E hk he q => ha A nb S _ ex _ E (fun x S1 q1 => by
    obtain ⟨z, e1, e2⟩ := thnO_ok nb q1
    exact h _ _ _ e1 (hk _ _ e2)) he q
theorem rm_callB {f : List D → Option D} {x id : String} {p : Pos} (hc : CallFn X (.builtin id) f) (hg : Gl X x) (hm : X.mg x = none) (hv : bootBuiltins x = some (.builtin id)) (ha : RMA X (e :: es) u) (hn : (x : Str) ≠ "__name__" := by decide) (hdb : ((x : Str) == ("__debug__" : Str)) = false := by decide)
    (he : starEach (e :: es) X.env = (false, eval e X.env) :: starEach es X.env := by rfl) (hpl : (backTo pos (starEach es X.env)).any (·.1) = false := by rfl) : RM X (.Call (.Name x p) (e :: es) [] pos) (rCallB f u) := by
  obtain ⟨o, ho, h⟩ := hc; obtain ⟨ta, pa, sa⟩ := ha
  exact ⟨_, pm_callB ho hg hm hv pa hn hdb he hpl, snd_callB h sa⟩
theorem rm_callTy {f : List D → Option D} {x T : String} {p : Pos} (hc : CallFn X (.type T) f) (hg : Gl X x) (hm : X.mg x = none) (hv : bootBuiltins x = some (.type T)) (ha : RMA X (e :: es) u) (hn : (x : Str) ≠ "__name__" := by decide) (hdb : ((x : Str) == ("__debug__" : Str)) = false := by decide)
    (he : starEach (e :: es) X.env = (false, eval e X.env) :: starEach es X.env := by rfl) (hpl : (backTo pos (starEach es X.env)).any (·.1) = false := by rfl) : RM X (.Call (.Name x p) (e :: es) [] pos) (rCallB f u) := by
  obtain ⟨o, ho, h⟩ := hc; obtain ⟨ta, pa, sa⟩ := ha
  exact ⟨_, pm_callTy ho hg hm hv pa hn hdb he hpl, snd_callB h sa⟩
/-! tests -/
theorem snd_test {t : PTE} (h : Snd t r) : Snd (pTest t) (rTest r) := fun A nb S k ex Q E hk he q => h A nb S _ ex _ E (fun x S1 q1 => by
    obtain ⟨b, rfl, e3⟩ := blK_ok nb q1
    exact ⟨b, rfl, hk _ _ e3⟩) he q
theorem rmt_val (h : RM X e r) (he : ∀ whole, isTrue e X.env whole = (do let v ← whole; standAt e.pos; holding [v] (truthy v)) := by intro _; rfl) : RMT X e (rTest r) := by
  obtain ⟨ta, pa, sa⟩ := h
  exact ⟨_, pmt_val pa he, snd_test sa⟩
theorem rmt_cmp {op : CmpOp} {f : D → D → Option D} (ho : OpF X (compareOp op) f) (ha : RM X a ra) (hb : RM X b rb) (h1 : behindInMarks op b = false) : RMT X (.Compare a [op] [b] pos) (rTest (rOp f ra rb)) := by
  obtain ⟨o, ho, h⟩ := ho; obtain ⟨ta, pa, sa⟩ := ha; obtain ⟨tb, pb, sb⟩ := hb
  exact ⟨_, pmt_cmp ho pa pb h1, snd_test (snd_op h sa sb)⟩
theorem rmt_not (h : RMT X a rt) : RMT X (.UnaryOp .Not a pos) (rNot rt) := by
  obtain ⟨ta, pa, sa⟩ := h
  exact ⟨_, pmt_not pa, fun A nb S k ex Q E hk he q => sa A nb S _ ex _ E (fun x S1 q1 => hk _ _ q1) he q⟩
variable {rest : List Expr}
theorem rmw_and1 (h : RMT X a rt) : RMW X (.BoolOp .And [a] pos) rt := by
  obtain ⟨ta, pa, sa⟩ := h; exact ⟨_, pmw_and1 pa, sa⟩
theorem rmw_or1 (h : RMT X a rt) : RMW X (.BoolOp .Or [a] pos) rt := by
  obtain ⟨ta, pa, sa⟩ := h; exact ⟨_, pmw_or1 pa, sa⟩
theorem rmw_and (ha : RMT X a rt) (hb : RMW X (.BoolOp .And (b :: rest) pos) ru) : RMW X (.BoolOp .And (a :: b :: rest) pos) (rAnd rt ru) := by
  obtain ⟨ta, pa, sa⟩ := ha; obtain ⟨tb, pb, sb⟩ := hb
  refine ⟨_, pmw_and pa pb, fun A nb S k ex Q E hk he q => sa A nb S _ ex _ E (fun x S1 q1 => ?_) he q⟩
  cases x with
  | true => exact sb A nb S1 _ ex _ E hk he q1
  | false => exact hk _ _ q1
theorem rmw_or (ha : RMT X a rt) (hb : RMW X (.BoolOp .Or (b :: rest) pos) ru) : RMW X (.BoolOp .Or (a :: b :: rest) pos) (rOr rt ru) := by
  obtain ⟨ta, pa, sa⟩ := ha; obtain ⟨tb, pb, sb⟩ := hb
  refine ⟨_, pmw_or pa pb, fun A nb S k ex Q E hk he q => sa A nb S _ ex _ E (fun x S1 q1 => ?_) he q⟩
  cases x with
  | true => exact hk _ _ q1
  | false => exact sb A nb S1 _ ex _ E hk he q1
theorem rmt_w (h : RMW X a rt) : RMT X a rt := by
  obtain ⟨ta, pa, sa⟩ := h; exact ⟨_, pmt_w pa, sa⟩
theorem rm_one {op} (h : RM X a r) : RM X (.BoolOp op [a] pos) r := by
  obtain ⟨ta, pa, sa⟩ := h; exact ⟨_, pm_one pa, sa⟩
theorem rm_and (ha : RM X a ra) (hb : RM X (.BoolOp .And (b :: rest) pos) rb) : RM X (.BoolOp .And (a :: b :: rest) pos) (rAndV ra rb) := by
  obtain ⟨ta, pa, sa⟩ := ha; obtain ⟨tb, pb, sb⟩ := hb
  refine ⟨_, pm_and pa pb, fun A nb S k ex Q E hk he q => sa A nb S _ ex _ E (fun x S1 q1 => ?_) he q⟩
  obtain ⟨c, rfl, q2⟩ := blK_ok nb q1
  refine ⟨c, rfl, ?_⟩
  cases c with
  | true => exact sb A nb S1 _ ex _ E hk he q2
  | false => exact hk _ _ q2
theorem rm_or (ha : RM X a ra) (hb : RM X (.BoolOp .Or (b :: rest) pos) rb) : RM X (.BoolOp .Or (a :: b :: rest) pos) (rOrV ra rb) := by
  obtain ⟨ta, pa, sa⟩ := ha; obtain ⟨tb, pb, sb⟩ := hb
  refine ⟨_, pm_or pa pb, fun A nb S k ex Q E hk he q => sa A nb S _ ex _ E (fun x S1 q1 => ?_) he q⟩
  obtain ⟨c, rfl, q2⟩ := blK_ok nb q1
  refine ⟨c, rfl, ?_⟩
  cases c with
  | true => exact hk _ _ q2
  | false => exact sb A nb S1 _ ex _ E hk he q2
theorem rm_not (ha : RM X a ra) : RM X (.UnaryOp .Not a pos) (rNotV ra) := by
  obtain ⟨ta, pa, sa⟩ := ha
  refine ⟨_, pm_not pa, fun A nb S k ex Q E hk he q => sa A nb S _ ex _ E (fun x S1 q1 => ?_) he q⟩
  obtain ⟨c, rfl, q2⟩ := blK_ok nb q1
  exact ⟨c, rfl, hk _ _ q2⟩
theorem rm_ifExp (hc : RMT X c rt) (ha : RM X a ra) (hb : RM X b rb) : RM X (.IfExp c a b pos) (rIf rt ra rb) := by
  obtain ⟨ta, pa, sa⟩ := ha; obtain ⟨tb, pb, sb⟩ := hb; obtain ⟨tc, pc, sc⟩ := hc
  refine ⟨_, pm_ifExp pc pa pb, fun A nb S k ex Q E hk he q => sc A nb S _ ex _ E (fun x S1 q1 => ?_) he q⟩
  cases x with
  | true => exact sa A nb S1 _ ex _ E hk he q1
  | false => exact sb A nb S1 _ ex _ E hk he q1
/-! what is looked into -/
def rkVar (i : Nat) : RG Pk := fun S k _ => match S.ρ[i]? with
  | some (.val d) => k (.val d) S
  | some (.own _) => k (.slot i) S
  | _ => .bad
def rkOf (r : RE) : RG Pk := fun S k e => r S (fun d S1 => k (.val d) S1) e
theorem rk_var {i : Nat} (h : PE X e (tVar i)) : RMK X e (rkVar i) := ⟨_, pk_var h, fun A nb S k ex Q E hk he q => by
  unfold rkVar at q
  unfold pkVar
  split at q
  · rename_i h1; (try simp only [h1]); exact hk _ _ q
  · rename_i h1; (try simp only [h1]); exact hk _ _ q
  · exact absurd q nb⟩
theorem rk_of (h : RM X e r) : RMK X e (rkOf r) := by
  obtain ⟨ta, pa, sa⟩ := h
  exact ⟨_, pk_of pa, fun A nb S k ex Q E hk he q => sa A nb S _ ex _ E (fun x S1 q1 => hk _ _ q1) he q⟩
def fixC (c : Con) (y : D) : Option D := match c with
  | .val x => match x with
    | .dct ks vs => if (keyK y).isSome = true then dget ks vs y else none
    | _ => fIx x y
  | .own (.lst xs) => match y with
    | .int i => atI xs i
    | _ => none
  | .own (.dct ks vs) => if (keyK y).isSome = true then dget ks vs y else none
  | .bad => none
theorem ixC_sound {c : Con} {y z : D} {Q : D → Prop} (h : fixC c y = some z) (q : Q z) : ixC c y Q := by
  cases c with
  | val x =>
    cases x with
    | dct ks vs =>
      have h : (if (keyK y).isSome = true then dget ks vs y else none) = some z := h
      split at h
      · rename_i hc; exact ⟨hc, _, h, q⟩
      · cases h
    | tup xs => exact ix_sound (x := .tup xs) h q
    | lst xs => exact ix_sound (x := .lst xs) h q
    | str xs => exact ix_sound (x := .str xs) h q
    | _ => cases h
  | own o =>
    cases o with
    | lst xs =>
      cases y with
      | int i => exact ⟨i, z, rfl, h, q⟩
      | _ => cases h
    | dct ks vs =>
      have h : (if (keyK y).isSome = true then dget ks vs y else none) = some z := h
      split at h
      · rename_i hc; exact ⟨hc, _, h, q⟩
      · cases h
  | bad => cases h
def rIxK (rk : RG Pk) (rb : RE) : RE := fun S k e => rk S (fun p S1 => rb S1 (fun y S2 => thnO (fixC (con S2 p) y) fun z => k z S2) e) e
theorem rm_ixK {rk : RG Pk} (hu : X.A.units + 1 < cLine) (ha : RMK X a rk) (hb : RM X b rb) (hpi : PlainIx b) : RM X (.Subscript a b pos) (rIxK rk rb) := by
  obtain ⟨ta, pa, sa⟩ := ha; obtain ⟨tb, pb, sb⟩ := hb
  exact ⟨_, pm_ixK hu pa pb hpi, fun A nb S k ex Q E hk he q => sa A nb S _ ex _ E (fun x S1 q1 => sb A nb S1 _ ex _ E (fun y S2 q2 => by
    obtain ⟨z, e1, e2⟩ := thnO_ok nb q2
    exact ixC_sound e1 (hk _ _ e2)) he q1) he q⟩
def flenC (c : Con) : Option D := match c with
  | .val x => fLen x
  | .own (.lst xs) => some (.int xs.length)
  | .own (.dct ks vs) => some (.int ks.length)
  | .bad => none
theorem lenC_sound {c : Con} {z : D} {Q : D → Prop} (h : flenC c = some z) (q : Q z) : lenC c Q := by
  cases c with
  | val x => exact len_sound (x := x) h q
  | own o => cases o <;> (cases h; exact q)
  | bad => cases h
def rLenK (rk : RG Pk) : RE := fun S k e => rk S (fun p S1 => thnO (flenC (con S1 p)) fun z => k z S1) e
theorem rm_lenK {rk : RG Pk} {p : Pos} (hg : Gl X "len") (hm : X.mg "len" = none) (ha : RMK X a rk) (he : starEach [a] X.env = (false, eval a X.env) :: starEach [] X.env := by rfl) (hpl : (backTo pos (starEach [] X.env)).any (·.1) = false := by rfl) :
    RM X (.Call (.Name "len" p) [a] [] pos) (rLenK rk) := by
  obtain ⟨ta, pa, sa⟩ := ha
  exact ⟨_, pm_lenK hg hm pa he hpl, fun A nb S k ex Q E hk he q => sa A nb S _ ex _ E (fun x S1 q1 => by
    obtain ⟨z, e1, e2⟩ := thnO_ok nb q1
    exact lenC_sound e1 (hk _ _ e2)) he q⟩
def rTabG (tab : List (Str × D)) (rb : RE) : RE := fun S k e => rb S (fun y S1 => match y with
  | .str z => thnO (tab.lookup z) fun d => k d S1
  | _ => .bad) e
theorem rm_tabG {x : Str} {p : Pos} {tab : List (Str × D)} (h : GT X.K X.w X.mg x tab) (hg : Gl X x) (hb : RM X b rb) (hpi : PlainIx b) (hd : (x == ("__debug__" : Str)) = false := by decide) : RM X (.Subscript (.Name x p) b pos) (rTabG tab rb) := by
  obtain ⟨tb, pb, sb⟩ := hb
  exact ⟨_, pm_tabG h hg pb hpi hd, fun A nb S k ex Q E hk he q => sb A nb S _ ex _ E (fun x S1 q1 => by
    split at q1
    · obtain ⟨z, e1, e2⟩ := thnO_ok nb q1
      exact ⟨_, _, rfl, e1, hk _ _ e2⟩
    · exact absurd q1 nb) he q⟩
def qPop (rk : RG Pk) : RE := fun S k e => rk S (fun p S1 => match con S1 p with
  | .own (.lst xs) => thnO (xs[xs.length - 1]?) fun d => k d (putC S1 p (.lst xs.dropLast))
  | _ => .bad) e
theorem rm_pop {rk : RG Pk} {o : Expr} (ho : RMK X o rk) (h : ∀ tk, PK X o tk → ∀ W, Takes X W → PE X e (tBM0 X.K "list" L2.rPop (lK X W tk))) : RM X e (qPop rk) := by
  obtain ⟨ta, pa, sa⟩ := ho
  exact ⟨_, pm_pop (h _ pa), fun A nb S k ex Q E hk he q => sa A nb S _ ex _ E (fun p S1 q1 => by
    split at q1
    · rename_i xs hc
      obtain ⟨d, e1, e2⟩ := thnO_ok nb q1
      exact ⟨xs, d, hc, e1, hk _ _ e2⟩
    · exact absurd q1 nb) he q⟩
def rGet2 (rk : RG Pk) (ry rz : RE) : RE := fun S k e => rk S (fun p S1 => if (dctC (con S1 p)).isSome = true then ry S1 (fun y S2 => rz S2 (fun z S3 => thnO (dctC (con S3 p)) fun kv => if (keyK y).isSome = true then k ((dget kv.1 kv.2 y).getD z) S3 else .bad) e) e else .bad) e
theorem rm_get2 {o e f : Expr} {apos cpos : Pos} {rk : RG Pk} {ry rz : RE} (hu : X.A.units + 1 < cLine) (ho : RMK X o rk) (hy : RM X e ry) (hz : RM X f rz) (m : M2 X o "get" apos e f cpos) : RM X (.Call (.Attribute o "get" apos) [e, f] [] cpos) (rGet2 rk ry rz) := by
  obtain ⟨ta, pa, sa⟩ := ho; obtain ⟨tb, pb, sb⟩ := hy; obtain ⟨tc, pc, sc⟩ := hz
  exact ⟨_, pm_get2 hu pa pb pc m, fun A nb S k ex Q E hk he q => sa A nb S _ ex _ E (fun p S1 q1 => by
    obtain ⟨h1, h2⟩ := bad_if nb q1
    exact ⟨h1, sb A nb S1 _ ex _ E (fun y S2 q2 => sc A nb S2 _ ex _ E (fun z S3 q3 => by
      obtain ⟨⟨ks, vs⟩, e1, e2⟩ := thnO_ok nb q3
      obtain ⟨h3, h4⟩ := bad_if nb e2
      exact ⟨ks, vs, e1, h3, hk _ _ h4⟩) he q2) he h2⟩) he q⟩
/-! own objects -/
def roLst (u : RA) : RG Own := fun S k e => u S (fun ds S1 => if ds.length ≤ sizeLine then k (.lst ds) S1 else .bad) e
def roDct : RG Own := fun S k _ => k (.dct [] []) S
theorem rmo_lst (h : RMA X es u) : RMO X (.List es pos) (roLst u) := by
  obtain ⟨ta, pa, sa⟩ := h
  exact ⟨_, pmo_lst pa, fun A nb S k ex Q E hk he q => sa A nb S _ ex _ E (fun x S1 q1 => by
    obtain ⟨h1, h2⟩ := bad_if nb q1
    exact ⟨h1, hk _ _ h2⟩) he q⟩
theorem rmo_dct : RMO X (.Dict [] [] pos) roDct := ⟨_, pmo_dct, fun A nb S k ex Q E hk he q => hk _ _ q⟩
def roCat (ra rb : RE) : RG Own := fun S k e => ra S (fun x S1 => rb S1 (fun y S2 => match x, y with
  | .lst xs, .lst ys => if xs.length + ys.length ≤ sizeLine then k (.lst (xs ++ ys)) S2 else .bad
  | _, _ => .bad) e) e
theorem rmo_cat (ha : RM X a ra) (hb : RM X b rb) : RMO X (.BinOp a .Add b pos) (roCat ra rb) := by
  obtain ⟨ta, pa, sa⟩ := ha; obtain ⟨tb, pb, sb⟩ := hb
  exact ⟨_, pmo_cat pa pb, fun A nb S k ex Q E hk he q => sa A nb S _ ex _ E (fun x S1 q1 => sb A nb S1 _ ex _ E (fun y S2 q2 => by
    split at q2
    · obtain ⟨h1, h2⟩ := bad_if nb q2
      exact ⟨_, _, rfl, rfl, h1, hk _ _ h2⟩
    · exact absurd q2 nb) he q1) he q⟩
def RMP (X : Cx) (pos : Pos) (keys : List (Option Expr)) (values : List Expr) (rs : RG (List (D × D))) : Prop := ∃ ts, PMP X pos keys values ts ∧ Snd (pPairs ts) rs
def rpNil : RG (List (D × D)) := fun S k _ => k [] S
def rpCons (ra rb : RE) (u : RG (List (D × D))) : RG (List (D × D)) := fun S k e => ra S (fun x S1 => rb S1 (fun y S2 => u S2 (fun ps S3 => k ((x, y) :: ps) S3) e) e) e
theorem rmp_nil : RMP X pos [] [] rpNil := ⟨[], pmp_nil, fun A nb S k ex Q E hk he q => hk _ _ q⟩
theorem rmp_cons {ks : List (Option Expr)} {vs : List Expr} {u : RG (List (D × D))} (ha : RM X a ra) (hb : RM X b rb) (hr : RMP X pos ks vs u) : RMP X pos (some a :: ks) (b :: vs) (rpCons ra rb u) := by
  obtain ⟨ta, pa, sa⟩ := ha; obtain ⟨tb, pb, sb⟩ := hb; obtain ⟨tc, pc, sc⟩ := hr
  exact ⟨_, pmp_cons pa pb pc, fun A nb S k ex Q E hk he q => sa A nb S _ ex _ E (fun x S1 q1 => sb A nb S1 _ ex _ E (fun y S2 q2 => sc A nb S2 _ ex _ E (fun z S3 q3 => hk _ _ q3) he q2) he q1) he q⟩
def roDisp (u : RG (List (D × D))) : RG Own := fun S k e => u S (fun ps S1 => if ps.length ≤ 15 ∧ (ps.all fun p => (keyK p.1).isSome) = true then k (.dct (mergeD ([], []) ps).1 (mergeD ([], []) ps).2) S1 else .bad) e
theorem rmo_disp {keys : List (Option Expr)} {values : List Expr} {u : RG (List (D × D))} (h : RMP X pos keys values u) (hall : keys.all (·.isSome) = true := by rfl) (hl : keys.length = values.length := by rfl) (h0 : keys ≠ [] := by exact fun h => nomatch h) (h15 : keys.length ≤ 15 := by decide) : RMO X (.Dict keys values pos) (roDisp u) := by
  obtain ⟨ta, pa, sa⟩ := h
  exact ⟨_, pmo_disp pa hall hl h0 h15, fun A nb S k ex Q E hk he q => sa A nb S _ ex _ E (fun x S1 q1 => by
    obtain ⟨⟨h1, h3⟩, h2⟩ := bad_if nb q1
    exact ⟨h1, by simpa using h3, hk _ _ h2⟩) he q⟩
def ownD : Own → D
  | .lst xs => .lst xs
  | .dct ks vs => .dct ks vs
def rFrzO (ro : RG Own) : RE := fun S k e => ro S (fun o S1 => k (ownD o) S1) e
theorem rm_frzO {ro : RG Own} (h : RMO X e ro) : RM X e (rFrzO ro) := by
  obtain ⟨ta, pa, sa⟩ := h
  refine ⟨_, pm_frzO pa, fun A nb S k ex Q E hk he q => sa A nb S _ ex _ E (fun o S1 q1 => ?_) he q⟩
  cases o <;> exact hk _ _ q1
/-! what is walked -/
def rIter (r : RE) : RA := fun S k e => r S (fun d S1 => match d with
  | .lst xs => k xs S1
  | .tup xs => k xs S1
  | _ => .bad) e
variable {tg : Expr}
theorem rmi_seq (h : RM X e r) : RMI X tg e (rIter r) := by
  obtain ⟨ta, pa, sa⟩ := h
  refine ⟨_, pmi_seq pa, fun A nb S k ex Q E hk he q => sa A nb S _ ex _ E (fun d S1 q1 => ?_) he q⟩
  split at q1
  · exact hk _ _ q1
  · exact hk _ _ q1
  · exact absurd q1 nb
def bnd62 (j : Int) : Bool := decide (-(2 ^ 62) ≤ j) && decide (j < 2 ^ 62)
def rRng1 (u : RA) : RA := fun S k e => u S (fun ds S1 => match ds with
  | [.int j] => if bnd62 j = true then k (rangeD 0 j.toNat) S1 else .bad
  | _ => .bad) e
def rRng2 (u : RA) : RA := fun S k e => u S (fun ds S1 => match ds with
  | [.int i, .int j] => if bnd62 i = true ∧ bnd62 j = true then k (rangeD i (j - i).toNat) S1 else .bad
  | _ => .bad) e
theorem bnd62_ok {j : Int} (h : bnd62 j = true) : -(2 ^ 62) ≤ j ∧ j < 2 ^ 62 := by
  simpa only [bnd62, Bool.and_eq_true, decide_eq_true_eq] using h
theorem rmi_range1 {p pos : Pos} (hg : Gl X "range") (hm : X.mg "range" = none) (ha : RMA X [a] u) (hs : starEach [a] X.env = [(false, eval a X.env)] := by rfl) : RMI X tg (.Call (.Name "range" p) [a] [] pos) (rRng1 u) := by
  obtain ⟨ta, pa, sa⟩ := ha
  refine ⟨_, pmi_range1 hg hm pa hs, fun A nb S k ex Q E hk he q => sa A nb S _ ex _ E (fun d S1 q1 => ?_) he q⟩
  split at q1
  · obtain ⟨h1, h2⟩ := bad_if nb q1
    exact ⟨_, rfl, bnd62_ok h1, hk _ _ h2⟩
  · exact absurd q1 nb
theorem rmi_range2 {p pos : Pos} (hg : Gl X "range") (hm : X.mg "range" = none) (ha : RMA X [a, b] u) (hs : starEach [a, b] X.env = [(false, eval a X.env), (false, eval b X.env)] := by rfl) (hs2 : starEach [b] X.env = [(false, eval b X.env)] := by rfl) : RMI X tg (.Call (.Name "range" p) [a, b] [] pos) (rRng2 u) := by
  obtain ⟨ta, pa, sa⟩ := ha
  refine ⟨_, pmi_range2 hg hm pa hs hs2, fun A nb S k ex Q E hk he q => sa A nb S _ ex _ E (fun d S1 q1 => ?_) he q⟩
  split at q1
  · obtain ⟨h1, h2⟩ := bad_if nb q1
    obtain ⟨h3, h4⟩ := bnd62_ok h1.1
    obtain ⟨h5, h6⟩ := bnd62_ok h1.2
    exact ⟨_, _, rfl, ⟨h3, h4, h5, h6⟩, hk _ _ h2⟩
  · exact absurd q1 nb
end
end Pl
set_option Elab.async false
set_option linter.all false
set_option maxRecDepth 100000
set_option maxHeartbeats 4000000
/-! RlS: runs of statements, defs -/
namespace Pl
open PySem PySem.Spec L2
open PyProof.Rows (envOfC)
/-! ### the weakest first reading of a run -/
def den {α : Type} (r : RG α) : Tg α := fun S Q E => ∃ (A : Out → Prop) (k : α → Sta → Out) (e : RX), ¬ A .bad ∧ (∀ a S1, A (k a S1) → Q a S1) ∧ (∀ x S1, A (e x S1) → E x S1) ∧ A (r S k e)
theorem snd_den {α : Type} (r : RG α) : Snd (den r) r := fun A nb S k e Q E hk he q => ⟨A, k, e, nb, hk, he, q⟩
theorem den_of {α : Type} {t : Tg α} {r : RG α} (h : Snd t r) : ∀ S Q E, den r S Q E → t S Q E := fun S Q E ⟨A, k, e, nb, hk, he, q⟩ => h A nb S k e Q E hk he q
theorem lE_wk {X : Cx} {W : WX} {t t' : PTE} (h : ∀ S Q E, t' S Q E → t S Q E) : ∀ σ H Q, lE X W t' σ H Q → lE X W t σ H Q := fun σ H Q ⟨S, Q', E', a, b, c⟩ => ⟨S, Q', E', a, h _ _ _ b, c⟩
theorem lT_wk {X : Cx} {W : WX} {t t' : PTT} (h : ∀ S Q E, t' S Q E → t S Q E) : ∀ σ H Q, lT X W t' σ H Q → lT X W t σ H Q := fun σ H Q ⟨S, Q', E', a, b, c⟩ => ⟨S, Q', E', a, h _ _ _ b, c⟩
theorem RM.den {X : Cx} {e : Expr} {r : RE} (h : RM X e r) : PM X e (den r) := by
  obtain ⟨t, p, s⟩ := h
  exact fun W tk => weakE (p W tk) (lE_wk (den_of s))
theorem weakTs {X : Cx} {e : List Expr} {t t' : TT} (h : PTs X e t) (w : ∀ σ H Q, t' σ H Q → t σ H Q) : PTs X e t' := ⟨fun pins s σ H Q I q => h.run pins s σ H Q I (w _ _ _ q)⟩
theorem RMTs.den {X : Cx} {e : List Expr} {r : RT} (h : RMTs X e r) : PMTs X e (den r) := by
  obtain ⟨t, p, s⟩ := h
  exact fun W tk => weakTs (p W tk) (lT_wk (den_of s))
/-! ### targets -/
abbrev RTg := D → Sta → (Sta → Out) → Out
abbrev RTgs := List D → Sta → (Sta → Out) → Out
def SndG {β : Type} (t : β → Sta → (Sta → Prop) → Prop) (r : β → Sta → (Sta → Out) → Out) : Prop := ∀ (A : Out → Prop), ¬ A .bad → ∀ d S k (Q : Sta → Prop), (∀ S1, A (k S1) → Q S1) → A (r d S k) → t d S Q
def RMG (X : Cx) (vs : List Nat) (e : Expr) (r : RTg) : Prop := ∃ t, PMG X vs e t ∧ SndG t r
def RMGs (X : Cx) (vs : List Nat) (e : List Expr) (r : RTgs) : Prop := ∃ t, PMGs X vs e t ∧ SndG t r
def denG {β : Type} (r : β → Sta → (Sta → Out) → Out) : β → Sta → (Sta → Prop) → Prop := fun d S Q => ∃ (A : Out → Prop) (k : Sta → Out), ¬ A .bad ∧ (∀ S1, A (k S1) → Q S1) ∧ A (r d S k)
theorem snd_denG {β : Type} (r : β → Sta → (Sta → Out) → Out) : SndG (denG r) r := fun A nb d S k Q hk q => ⟨A, k, nb, hk, q⟩
theorem RMG.den {X : Cx} {vs : List Nat} {e : Expr} {r : RTg} (h : RMG X vs e r) : PMG X vs e (denG r) := by
  obtain ⟨t, p, s⟩ := h
  exact weakG p fun v σ H Q ⟨d, S, Q', a, b, ⟨A, k, nb, hk, q⟩, c⟩ => ⟨d, S, Q', a, b, s A nb d S k Q' hk q, c⟩
def rgName (i : Nat) : RTg := fun d S k => k ⟨S.ρ.set i (.val d), S.W⟩
def rgNil : RTgs := fun ds S k => match ds with
  | [] => k S
  | _ => .bad
def rgCons (t : RTg) (u : RTgs) : RTgs := fun ds S k => match ds with
  | d :: r => t d S fun S1 => u r S1 k
  | [] => .bad
def rgTup (n : Nat) (t : RTgs) : RTg := fun d S k => match d with
  | .tup ds => if ds.length = n then t ds S k else .bad
  | _ => .bad
section
variable {X : Cx} {vs : List Nat} {e : Expr} {es : List Expr} {pos : Pos}
theorem rmg_of {i : Nat} (h : PG X e (gName i)) (hi : i ∈ vs := by decide) : RMG X vs e (rgName i) := ⟨_, pmg_of h hi, fun A nb d S k Q hk q => hk _ q⟩
theorem rmgs_nil : RMGs X vs [] rgNil := ⟨_, pmgs_nil, fun A nb d S k Q hk q => by
  unfold rgNil at q
  split at q
  · exact ⟨rfl, hk _ q⟩
  · exact absurd q nb⟩
theorem rmgs_cons {r : RTg} {u : RTgs} (h1 : RMG X vs e r) (h2 : RMGs X vs es u) (hs : (assignEach (e :: es) X.env).map (·.2) = assign e X.env :: (assignEach es X.env).map (·.2) := by rfl) : RMGs X vs (e :: es) (rgCons r u) := by
  obtain ⟨ta, pa, sa⟩ := h1; obtain ⟨tb, pb, sb⟩ := h2
  refine ⟨_, pmgs_cons pa pb hs, fun A nb d S k Q hk q => ?_⟩
  unfold rgCons at q
  split at q
  · exact ⟨_, _, rfl, sa A nb _ _ _ _ (fun S1 q1 => sb A nb _ _ _ _ hk q1) q⟩
  · exact absurd q nb
theorem rmg_tup {n k : Nat} {u : RTgs} (hc : X.calm = true) (h : RMGs X vs es u) (hn : (assignEach es X.env).length = n := by rfl) (hst : (assignEach es X.env).findIdx? (·.1) = none := by rfl) : RMG X vs (.Tuple es k pos) (rgTup n u) := by
  obtain ⟨ta, pa, sa⟩ := h
  refine ⟨_, pmg_tup hc pa hn hst, fun A nb d S k Q hk q => ?_⟩
  unfold rgTup at q
  split at q
  · obtain ⟨h1, h2⟩ := bad_if nb q
    exact ⟨_, rfl, h1, sa A nb _ _ _ _ hk h2⟩
  · exact absurd q nb
end
/-! ### blocks -/
def rNext : RS := fun K S => K.nx S
def rSeq (t u : RS) : RS := fun K S => t { K with nx := u K } S
def rBreak : RS := fun K S => K.bk S
def rCont : RS := fun K S => K.ct S
def rDrop (r : RE) : RS := fun K S => r S (fun _ S1 => K.nx S1) K.ex
def rRet (r : RE) : RS := fun K S => r S K.rt K.ex
def rRetN : RS := fun K S => K.rt .non S
def rIfS (c : RT) (t u : RS) : RS := fun K S => c S (fun b S1 => if b = true then t K S1 else u K S1) K.ex
def rAsg (r : RE) (g : RTg) : RS := fun K S => r S (fun d S1 => g d S1 K.nx) K.ex
def rSet (i : Nat) (r : RE) : RS := fun K S => r S (fun d S1 => K.nx ⟨S1.ρ.set i (.val d), S1.W⟩) K.ex
def rPar (i j : Nat) (t : RA) : RS := fun K S => t S (fun ds S1 => match ds with
  | [x, y] => K.nx ⟨(S1.ρ.set i (.val x)).set j (.val y), S1.W⟩
  | _ => .bad) K.ex
def rSetO (i : Nat) (ro : RG Own) : RS := fun K S => ro S (fun o S1 => K.nx ⟨S1.ρ.set i (.own o), S1.W⟩) K.ex
def rAppend (rk : RG Pk) (re : RE) : RS := fun K S => rk S (fun p S1 => match con S1 p with
  | .own (.lst _) => re S1 (fun d S2 => match con S2 p with
    | .own (.lst xs) => if xs.length < sizeLine then K.nx (putC S2 p (.lst (xs ++ [d]))) else .bad
    | _ => .bad) K.ex
  | _ => .bad) K.ex
def fsetC (c : Con) (i d : D) : Option Own := match c with
  | .own (.lst xs) => match i with
    | .int k => (ixN xs.length k).map fun j => .lst (xs.set j d)
    | _ => none
  | .own (.dct ks vs) => if (keyK i).isSome = true ∧ ks.length < sizeLine then some (.dct (dput ks vs i d).1 (dput ks vs i d).2) else none
  | _ => none
def rStore (tv : RE) (tk : RG Pk) (ti : RE) : RS := fun K S => tv S (fun d S1 => tk S1 (fun p S2 => ti S2 (fun i S3 => thnO (fsetC (con S3 p) i d) fun o => K.nx (putC S3 p o)) K.ex) K.ex) K.ex
def rRaise (x : Exn) : RS := fun K S => K.ex x S
def forR (g : RTg) (tb : RS) (K : Ks) : List D → Sta → Out
  | [], S => K.nx S
  | d :: r, S => g d S fun S2 => tb { K with nx := forR g tb K r, ct := forR g tb K r, bk := K.nx } S2
def rFor (ti : RA) (g : RTg) (tb : RS) : RS := fun K S => ti S (fun ds S1 => forR g tb K ds S1) K.ex
def whR (c : RT) (tb : RS) (K : Ks) : Nat → Sta → Out
  | 0, _ => .bad
  | n + 1, S => c S (fun b S1 => if b = true then tb { K with nx := whR c tb K n, ct := whR c tb K n, bk := K.nx } S1 else K.nx S1) K.ex
def rWhile (n : Nat) (c : RT) (tb : RS) : RS := fun K S => whR c tb K n S
section
variable {X : Cx} {st : Stmt} {rest : List Stmt} {e : Expr} {pos : Pos} {t u : RS} {r : RE}
theorem Acc.nxt {A : Out → Prop} {K : Ks} {P : PEnds} (h : Acc A K P) {n : Sta → Out} {N : Sta → Prop} (hn : ∀ S, A (n S) → N S) : Acc A { K with nx := n } { P with nx := N } := ⟨hn, h.rt, h.bk, h.ct, h.ex⟩
theorem Acc.lp {A : Out → Prop} {K : Ks} {P : PEnds} (h : Acc A K P) {n c : Sta → Out} {N C : Sta → Prop} (hn : ∀ S, A (n S) → N S) (hc : ∀ S, A (c S) → C S) : Acc A { K with nx := n, ct := c, bk := K.nx } { P with nx := N, ct := C, bk := P.nx } := ⟨hn, h.rt, h.nx, hc, h.ex⟩
theorem rmss_nil : RMSs X [] rNext := ⟨_, pmss_nil, fun A nb K P S a q => a.nx _ q⟩
theorem rmss_cons (h1 : RMS X st t) (h2 : RMSs X rest u) : RMSs X (st :: rest) (rSeq t u) := by
  obtain ⟨ta, pa, sa⟩ := h1; obtain ⟨tb, pb, sb⟩ := h2
  exact ⟨_, pmss_cons pa pb, fun A nb K P S a q => sa A nb _ _ _ (a.nxt fun S1 q1 => sb A nb _ _ _ a q1) q⟩
theorem rmss_one (h : RMS X st t) : RMSs X [st] t := by
  obtain ⟨ta, pa, sa⟩ := h; exact ⟨_, pmss_one pa, sa⟩
theorem rms_pass : RMS X (.Pass pos) rNext := ⟨_, pms_pass, fun A nb K P S a q => a.nx _ q⟩
theorem rms_break : RMS X (.Break pos) rBreak := ⟨_, pms_break, fun A nb K P S a q => a.bk _ q⟩
theorem rms_continue : RMS X (.Continue pos) rCont := ⟨_, pms_continue, fun A nb K P S a q => a.ct _ q⟩
theorem rms_expr (h : RM X e r) (hs : swapsWith e none pos.line X.env = pure false := by rfl) : RMS X (.Expr e pos) (rDrop r) := by
  obtain ⟨ta, pa, sa⟩ := h
  exact ⟨_, pms_expr pa hs, fun A nb K P S a q => sa A nb S _ _ _ _ (fun d S1 q1 => a.nx _ q1) a.ex q⟩
theorem rms_ret (h : RM X e r) : RMS X (.Return (some e) pos) (rRet r) := by
  obtain ⟨ta, pa, sa⟩ := h
  exact ⟨_, pms_ret pa, fun A nb K P S a q => sa A nb S _ _ _ _ a.rt a.ex q⟩
theorem rms_retN : RMS X (.Return none pos) rRetN := ⟨_, pms_retN, fun A nb K P S a q => a.rt _ _ q⟩
theorem rms_if {c : Expr} {a b : List Stmt} {rc : RT} (hc : RMT X c rc) (ha : RMSs X a t) (hb : RMSs X b u) : RMS X (.If c a b pos) (rIfS rc t u) := by
  obtain ⟨ta, pa, sa⟩ := ha; obtain ⟨tb, pb, sb⟩ := hb; obtain ⟨tc, pc, sc⟩ := hc
  refine ⟨_, pms_if pc pa pb, fun A nb K P S a q => sc A nb S _ _ _ _ (fun d S1 q1 => ?_) a.ex q⟩
  cases d with
  | true => exact sa A nb _ _ _ a q1
  | false => exact sb A nb _ _ _ a q1
theorem rms_asg {vs : List Nat} {tg : Expr} {g : RTg} (he : RM X e r) (hg : RMG X vs tg g) (hs : swapsWithSole [tg] e pos.line X.env = pure false := by rfl) (hw : swappedStores [tg] e X.env = pure none := by rfl)
    (h1 : (assignEach [tg] X.env).map (·.2) = [assign tg X.env] := by rfl) : RMS X (.Assign [tg] e pos) (rAsg r g) := by
  obtain ⟨ta, pa, sa⟩ := he; obtain ⟨tb, pb, sb⟩ := hg
  exact ⟨_, pms_asg pa pb hs hw h1, fun A nb K P S a q => sa A nb S _ _ _ _ (fun d S1 q1 => sb A nb _ _ _ _ a.nx q1) a.ex q⟩
theorem rms_set {i : Nat} (h : RM X e r) (hh : ∀ te, PM X e te → ∀ W, Takes X W → L2.PS X st (tAsg (lE X W te) (gName i))) : RMS X st (rSet i r) := by
  obtain ⟨ta, pa, sa⟩ := h
  exact ⟨_, pms_set (hh _ pa), fun A nb K P S a q => sa A nb S _ _ _ _ (fun d S1 q1 => a.nx _ q1) a.ex q⟩
theorem rms_par {i j : Nat} {es : List Expr} {ra : RA} (h : RMA X es ra) (hh : ∀ te, PMA X es te → ∀ W, Takes X W → L2.PS X st (tPar i j (lA X W te))) : RMS X st (rPar i j ra) := by
  obtain ⟨ta, pa, sa⟩ := h
  refine ⟨_, pms_par (hh _ pa), fun A nb K P S a q => sa A nb S _ _ _ _ (fun d S1 q1 => ?_) a.ex q⟩
  split at q1
  · exact ⟨_, _, rfl, a.nx _ q1⟩
  · exact absurd q1 nb
theorem rms_setO {i : Nat} {ro : RG Own} (h : RMO X e ro) (hh : ∀ te, PMO X e te → ∀ W, Takes X W → L2.PS X st (tAsg (lF X W te) (gName i))) : RMS X st (rSetO i ro) := by
  obtain ⟨ta, pa, sa⟩ := h
  exact ⟨_, pms_setO (hh _ pa), fun A nb K P S a q => sa A nb S _ _ _ _ (fun d S1 q1 => a.nx _ q1) a.ex q⟩
theorem rms_append {o : Expr} {rk : RG Pk} (hk : RMK X o rk) (he : RM X e r) (hh : ∀ tk te, PK X o tk → PM X e te → ∀ W, Takes X W → L2.PS X st (tDrop (tBM X.K "list" L2.rAppend (lK X W tk) (tCons (lE X W te) tNil)))) : RMS X st (rAppend rk r) := by
  obtain ⟨ta, pa, sa⟩ := hk; obtain ⟨tb, pb, sb⟩ := he
  refine ⟨_, pms_append (hh _ _ pa pb), fun A nb K P S a q => sa A nb S _ _ _ _ (fun p S1 q1 => ?_) a.ex q⟩
  split at q1
  · rename_i xs hc
    refine ⟨⟨xs, hc⟩, sb A nb S1 _ _ _ _ (fun d S2 q2 => ?_) a.ex q1⟩
    split at q2
    · rename_i ys hc2
      obtain ⟨h1, h2⟩ := bad_if nb q2
      exact ⟨ys, hc2, h1, a.nx _ h2⟩
    · exact absurd q2 nb
  · exact absurd q1 nb
theorem setC_sound {c : Con} {i d : D} {o : Own} {Q : Own → Prop} (h : fsetC c i d = some o) (q : Q o) : setC c i d Q := by
  cases c with
  | val x => cases h
  | bad => cases h
  | own w =>
    cases w with
    | lst xs =>
      cases i with
      | int k =>
        obtain ⟨j, h1, rfl⟩ := Option.map_eq_some_iff.mp (show (ixN xs.length k).map (fun j => Own.lst (xs.set j d)) = some o from h)
        exact ⟨k, j, rfl, h1, q⟩
      | _ => cases h
    | dct ks vs =>
      obtain ⟨hc, rfl⟩ := of_some (show (if (keyK i).isSome = true ∧ ks.length < sizeLine then some (Own.dct (dput ks vs i d).1 (dput ks vs i d).2) else none) = some o from h)
      exact ⟨hc.1, hc.2, q⟩
theorem rms_store {a b : Expr} {rk : RG Pk} {ri : RE} (hv : RM X e r) (hk : RMK X a rk) (hi : RM X b ri) (hh : ∀ tv tk ti, PM X e tv → PK X a tk → PM X b ti → ∀ W, Takes X W → L2.PS X st (tAsg (lE X W tv) (gSub (lK X W tk) (lE X W ti) fun o i v H Q => rSetL o i v H Q ∨ rSetD o i v H Q))) : RMS X st (rStore r rk ri) := by
  obtain ⟨ta, pa, sa⟩ := hv; obtain ⟨tb, pb, sb⟩ := hk; obtain ⟨tc, pc, sc⟩ := hi
  refine ⟨_, pms_store (hh _ _ _ pa pb pc), fun A nb K P S a q => sa A nb S _ _ _ _ (fun d S1 q1 => sb A nb S1 _ _ _ _ (fun p S2 q2 => sc A nb S2 _ _ _ _ (fun i S3 q3 => ?_) a.ex q2) a.ex q1) a.ex q⟩
  obtain ⟨z, e1, e2⟩ := thnO_ok nb q3
  exact setC_sound e1 (a.nx _ e2)
theorem rms_raiseOwn {x m : Str} {j : Nat} {C : Addr} {p p2 pos' : Pos} (hc : X.calm = true) (T : ExC X.K X.mg x C) (hg : Gl X x) (hdb : (x == ("__debug__" : Str)) = false := by decide) : RMS X (.Raise (some (.Call (.Name x p) [.Constant (.str m) j p2] [] pos)) none pos') (rRaise ⟨.ref C, none⟩) :=
  ⟨_, pms_raiseOwn hc T hg hdb, fun A nb K P S a q => a.ex _ _ q⟩
theorem for_snd {g : RTg} {tb : RS} {g' : PTG} {t' : PTS} (hg : SndG g' g) (hb : SndS t' tb) {A : Out → Prop} (nb : ¬ A .bad) {K : Ks} {P : PEnds} (a : Acc A K P) : ∀ ds S, A (forR g tb K ds S) → forW g' t' P ds S
  | [], S, q => a.nx _ q
  | d :: r, S, q => hg A nb _ _ _ _ (fun S2 q2 => hb A nb _ _ _ (a.lp (fun S3 q3 => for_snd hg hb nb a r S3 q3) (fun S3 q3 => for_snd hg hb nb a r S3 q3)) q2) q
theorem rms_for {vs : List Nat} {tg iter : Expr} {body : List Stmt} {ti : RA} {g : RTg} {tb : RS} (hp : PassesOwn (model X.prog X.w) X.A X.env X.xe) (hc : X.calm = true) (hi : RMI X tg iter ti) (hg : RMG X vs tg g) (hb : RMSs X body tb)
    (hs : ∀ x, foldedSetIterable iter X.env x = pure x := by intro _; rfl) : RMS X (.For tg iter body [] pos) (rFor ti g tb) := by
  obtain ⟨ta, pa, sa⟩ := hi; obtain ⟨tg', pg', sg⟩ := hg; obtain ⟨tb', pb, sb⟩ := hb
  exact ⟨_, pms_for hp hc pa pg' pb hs, fun A nb K P S a q => sa A nb S _ _ _ _ (fun ds S1 q1 => for_snd sg sb nb a ds S1 q1) a.ex q⟩
theorem rms_while (n : Nat) {c : Expr} {body : List Stmt} {rc : RT} {tb : RS} (hp : PassesOwn (model X.prog X.w) X.A X.env X.xe) (hc : RMT X c rc) (hb : RMSs X body tb) : RMS X (.While c body [] pos) (rWhile n rc tb) := by
  obtain ⟨tc, pc, sc⟩ := hc; obtain ⟨tb', pb, sb⟩ := hb
  refine ⟨_, pms_while hp pc pb, fun A nb K P S a q => ⟨fun m S => A (whR rc tb K m S), ⟨n, q⟩, fun m S h => ?_⟩⟩
  cases m with
  | zero => exact absurd h nb
  | succ m =>
    refine sc A nb S _ _ _ _ (fun b S1 q1 => ?_) a.ex h
    cases b with
    | true => exact sb A nb _ _ _ (a.lp (fun S3 q3 => ⟨m, Nat.lt_succ_self _, q3⟩) (fun S3 q3 => ⟨m, Nat.lt_succ_self _, q3⟩)) q1
    | false => exact a.nx _ q1
/-! ### comprehensions -/
def badX : RX := fun _ _ => .bad
def lcR (g : RTg) (tt : RT) (te : RE) (vs : List Nat) (k : D → Sta → Out) : List D → List D → Sta → Out
  | [], acc, S => k (.lst acc) S
  | d :: r, acc, S => g d S fun S2 => tt S2 (fun b S3 => if b = true then te S3 (fun y S4 => if acc.length < sizeLine then lcR g tt te vs k r (acc ++ [y]) (wipS S4 vs) else .bad) badX else lcR g tt te vs k r acc (wipS S3 vs)) badX
def rLc (ti : RA) (g : RTg) (tt : RT) (te : RE) (vs : List Nat) : RE := fun S k e => ti S (fun ds S1 => lcR g tt te vs k ds [] (wipS S1 vs)) e
def rYes : RT := fun S k _ => k true S
theorem rmts_nil : RMTs X [] rYes := ⟨_, pmts_nil, fun A nb S k e Q E hk he q => hk _ _ q⟩
theorem rmts_one {c : Expr} {t : RT} (h : RMT X c t) : RMTs X [c] t := by
  obtain ⟨ta, pa, sa⟩ := h; exact ⟨_, pmts_one pa, sa⟩
theorem lc_snd {g : RTg} {tt : RT} {te : RE} {vs : List Nat} {A : Out → Prop} (nb : ¬ A .bad) {k : D → Sta → Out} {Q : PQ} (hk : ∀ d S, A (k d S) → Q d S) : ∀ ds acc S, A (lcR g tt te vs k ds acc S) → lcW (denG g) (den tt) (den te) vs Q ds acc S
  | [], acc, S, q => hk _ _ q
  | d :: r, acc, S, q => snd_denG g A nb _ _ _ _ (fun S2 q2 => snd_den tt A nb _ _ _ _ _ (fun b S3 q3 => by
      cases b with
      | true => exact snd_den te A nb _ _ _ _ _ (fun y S4 q4 => by
          obtain ⟨h1, h2⟩ := bad_if nb q4
          exact ⟨h1, lc_snd nb hk r _ _ h2⟩) (fun x S4 q4 => absurd q4 nb) q3
      | false => exact lc_snd nb hk r _ _ q3) (fun x S4 q4 => absurd q4 nb) q2) q
theorem snd_lc {ti : RA} {ti' : PTI} (h : Snd ti' ti) (g : RTg) (tt : RT) (te : RE) (vs : List Nat) : Snd (pLc ti' (denG g) (den tt) (den te) vs) (rLc ti g tt te vs) := fun A nb S k e Q E hk he q => h A nb S _ _ _ _ (fun ds S1 q1 => lc_snd nb hk ds _ _ q1) he q
variable {elt tg iter : Expr} {ifs : List Expr} {scope : Scope} {own : List (Str × Nat)} {ti : RA} {g : RTg} {tt : RT} {te : RE}
theorem rm_lc (hc : X.calm = true) (hN : X.N.Nodup) (hi : RMI X tg iter ti) (ok : BlkOk X.N X.env.scope scope own)
    (hg : ∀ (s : Shared) (H : Hp) (C : Addr) (cl : List (Str × Addr)) (fp : List Addr), RMG (X.blk s H scope (compEnvC scope cl C X.env) fp) (own.map (·.2)) tg g)
    (ht : ∀ (s : Shared) (H : Hp) (C : Addr) (cl : List (Str × Addr)) (fp : List Addr), RMTs (X.blk s H scope (compEnvC scope cl C X.env) fp) ifs tt)
    (he : ∀ (s : Shared) (H : Hp) (C : Addr) (cl : List (Str × Addr)) (fp : List Addr), RM (X.blk s H scope (compEnvC scope cl C X.env) fp) elt te) (hs : ∀ x, foldedSetIterable iter X.env x = pure x := by intro _; rfl) :
    RM X (.ListComp elt [⟨tg, iter, ifs, 0⟩] scope pos) (rLc ti g tt te (own.map (·.2))) := by
  obtain ⟨ti', pi, si⟩ := hi
  exact ⟨_, pm_lc hc hN pi ok (fun s H C cl fp => (hg s H C cl fp).den) (fun s H C cl fp => (ht s H C cl fp).den) (fun s H C cl fp => (he s H C cl fp).den) hs, snd_lc si g tt te _⟩
theorem rms_setLc {i : Nat} {y : Str} {py spos : Pos} (hc : X.calm = true) (hN : X.N.Nodup) (hy : X.N[i]? = some y) (hyl : X.env.scope.names.lookup y = some .local)
    (hsw : swapsWith (.ListComp elt [⟨tg, iter, ifs, 0⟩] scope pos) (some (.Name y py)) spos.line X.env = pure true) (hi : RMI X tg iter ti) (ok : BlkOk X.N X.env.scope scope own)
    (hg : ∀ (s : Shared) (H : Hp) (C : Addr) (cl : List (Str × Addr)) (fp : List Addr), RMG (X.blk s H scope (compEnvC scope cl C X.env) fp) (own.map (·.2)) tg g)
    (ht : ∀ (s : Shared) (H : Hp) (C : Addr) (cl : List (Str × Addr)) (fp : List Addr), RMTs (X.blk s H scope (compEnvC scope cl C X.env) fp) ifs tt)
    (he : ∀ (s : Shared) (H : Hp) (C : Addr) (cl : List (Str × Addr)) (fp : List Addr), RM (X.blk s H scope (compEnvC scope cl C X.env) fp) elt te) (hs : ∀ x, foldedSetIterable iter X.env x = pure x := by intro _; rfl) :
    RMS X (.Assign [.Name y py] (.ListComp elt [⟨tg, iter, ifs, 0⟩] scope pos) spos) (rSet i (rLc ti g tt te (own.map (·.2)))) := by
  obtain ⟨ti', pi, si⟩ := hi
  exact ⟨_, pms_setLc hc hN hy hyl hsw pi ok (fun s H C cl fp => (hg s H C cl fp).den) (fun s H C cl fp => (ht s H C cl fp).den) (fun s H C cl fp => (he s H C cl fp).den) hs, fun A nb K P S a q => snd_lc si g tt te _ A nb S _ _ _ _ (fun d S1 q1 => a.nx _ q1) a.ex q⟩
end
/-! ### defs and their calls -/
abbrev RFn := List D → Wt → Out
/-- the promise of a run -/
def φR (F : RFn) : PFn := fun ds W Q E => match F ds W with
  | .rt d W' => Q d W'
  | .ex x W' => E x W'
  | .bad => False
theorem φR_rt {F : RFn} {ds : List D} {W W' : Wt} {d : D} {Q : D → Wt → Prop} {E : Exn → Wt → Prop} (h : F ds W = .rt d W') : φR F ds W Q E = Q d W' := by unfold φR; rw [h]
theorem φR_ex {F : RFn} {ds : List D} {W W' : Wt} {x : Exn} {Q : D → Wt → Prop} {E : Exn → Wt → Prop} (h : F ds W = .ex x W') : φR F ds W Q E = E x W' := by unfold φR; rw [h]
def K0 : Ks := { nx := fun S => .rt .non S.W, rt := fun d S => .rt d S.W, bk := fun _ => .bad, ct := fun _ => .bad, ex := fun x S => .ex x S.W }
/-- a def's run: so many slots, its body -/
def runD (n : Nat) (r : RS) : RFn := fun ds W => r K0 ⟨start0 n ds, W⟩
def outK (o : Out) (k : D → Wt → Out) (e : Exn → Wt → Out) : Out := match o with
  | .rt d W => k d W
  | .ex x W => e x W
  | .bad => .bad
def rCall (n : Nat) (F : RFn) (t : RA) : RE := fun S k e => t S (fun ds S1 => if ds.length = n then outK (F ds S1.W) (fun d W' => k d ⟨S1.ρ, W'⟩) (fun x W' => e x ⟨S1.ρ, W'⟩) else .bad) e
section
variable {P : Program} {w : World} {K : PySem.W.Frag} {mg : Str → Option Value} {base : Heap}
theorem callR_of {x : Str} {st : Stmt} {N ps : List Str} {k : Nat} {r : RS} (T : TopD K mg x ps st) (S : FnScope N ps (defScope st))
    (hbody : ∀ (f : Addr) (cdv : Value) (A : Around) (outer : List Env) (s : Shared) (H : Hp) (E : XK), Room k (A.deeper (envOfC x (defScope st) s.heap.objs.size f cdv)) →
      RMSs (cxOf (L2.CX P w) P w K mg base N x (defScope st) f cdv A outer s H E) (defBody st) r) :
    CallF P w K mg base x ps.length (k + 1) (φR (runD N.length r)) := by
  refine call_of T S fun f cdv A outer s H E hr => ?_
  obtain ⟨t, p, sn⟩ := hbody f cdv A outer s H E hr
  refine ⟨t, p, fun ds Wo Q E' hl h => ?_⟩
  refine sn (fun o => match o with | .rt d W' => Q d W' | .ex x W' => E' x W' | .bad => False) (fun z => z) K0 _ _ ⟨fun S h => h, fun d S h => h, fun S h => h, fun S h => h, fun x S h => h⟩ ?_
  exact h
/-- a def that calls itself: by its fuel -/
theorem rec_of {x : Str} {n b : Nat} {F : Nat → RFn} {ps : List Str} {st : Stmt} (T : TopD K mg x ps st) (hn : ps.length = n) (h0 : ∀ ds W, F 0 ds W = .bad)
    (step : ∀ m k, b ≤ k → CallF P w K mg base x n k (φR (F m)) → CallF P w K mg base x n (k + 1) (φR (F (m + 1)))) : ∀ m, CallF P w K mg base x n (b + m) (φR (F m))
  | 0 => low_none T hn fun ds W Q E h => by
    unfold φR at h
    rw [h0] at h
    exact h
  | m + 1 => step m (b + m) (Nat.le_add_right _ _) (rec_of T hn h0 step m)
theorem CallF.r {x : Str} {n k : Nat} {F G : RFn} (c : CallF P w K mg base x n k (φR F)) (h : F = G) : CallF P w K mg base x n k (φR G) := h ▸ c
end
section
variable {X : Cx} {k n : Nat} {F : RFn} {x : Str} {p pos : Pos} {e : Expr} {es : List Expr} {u : RA}
theorem rm_callF (c : CallF X.prog X.w X.K X.mg X.base x n k (φR F)) (hr : Room k X.A) (hg : Gl X x) (ha : RMA X (e :: es) u) (hdb : (x == ("__debug__" : Str)) = false := by decide)
    (he : starEach (e :: es) X.env = (false, eval e X.env) :: starEach es X.env := by rfl) (hpl : (backTo pos (starEach es X.env)).any (·.1) = false := by rfl) : RM X (.Call (.Name x p) (e :: es) [] pos) (rCall n F u) := by
  obtain ⟨ta, pa, sa⟩ := ha
  refine ⟨_, pm_callF c hr hg pa hdb he hpl, fun A nb S k ex Q E hk he q => sa A nb S _ _ _ _ (fun ds S1 q1 => ?_) he q⟩
  obtain ⟨h1, h2⟩ := bad_if nb q1
  refine ⟨h1, ?_⟩
  unfold φR
  revert h2
  unfold outK
  cases F ds S1.W with
  | rt d W' => exact fun h2 => hk _ _ h2
  | ex x W' => exact fun h2 => he _ _ h2
  | bad => exact fun h2 => nb h2
end
end Pl
set_option Elab.async false
set_option linter.all false
set_option maxRecDepth 100000
set_option maxHeartbeats 4000000
/-! RlM: more rules with their runs: several names stored at once, stores in targets, sorted, list of a dict -/
namespace Pl
open PySem PySem.Spec L2
/-! ### several values, some of them new own objects -/
inductive Itm where
  | val (d : D) | own (o : Own)
inductive ItmAll (K : PySem.W.Frag) (H H0 : Hp) (σ : St) (S : Sta) : List V → List Itm → List Addr → Prop
  | nil : ItmAll K H H0 σ S [] [] []
  | val {v : V} {d : D} {vs : List V} {its : List Itm} {as : List Addr} : Rep K H v d → ItmAll K H H0 σ S vs its as → ItmAll K H H0 σ S (v :: vs) (.val d :: its) as
  | own {a : Addr} {o : Own} {vs : List V} {its : List Itm} {as : List Addr} : OwnAt K H a o → H0 a = none → ¬ Oa σ S a → a ∉ as → ItmAll K H H0 σ S vs its as → ItmAll K H H0 σ S (.ref a :: vs) (.own o :: its) (a :: as)
abbrev PTX := Tg (List Itm)
def lAX (X : Cx) (W : WX) (t : PTX) : TA := fun σ H Q => ∃ S Q' E', Rel X.K H σ S ∧ t S Q' E' ∧ (∀ vs its as H' S', Nx σ S H σ S' H' → Rel X.K H' σ S' → ItmAll X.K H' H σ S' vs its as → Q' its S' → Q vs H') ∧ UpX X.K σ S H W E'
def PMX (X : Cx) (es : List Expr) (t : PTX) : Prop := ∀ W, Takes X W → PA X es (lAX X W t)
def pxNil : PTX := fun S Q _ => Q [] S
def pxVal (t : PTE) (u : PTX) : PTX := fun S Q E => t S (fun d S1 => u S1 (fun its S2 => Q (.val d :: its) S2) E) E
def pxOwn (t : PTO) (u : PTX) : PTX := fun S Q E => t S (fun o S1 => u S1 (fun its S2 => Q (.own o :: its) S2) E) E
theorem ItmAll.fresh {K : PySem.W.Frag} {H H0 : Hp} {σ : St} {S : Sta} {vs : List V} {its : List Itm} {as : List Addr} (h : ItmAll K H H0 σ S vs its as) : ∀ a ∈ as, H0 a = none := by
  induction h with
  | nil => exact fun a h => nomatch h
  | val _ _ ih => exact ih
  | own _ h2 _ _ _ ih =>
    intro b hb
    rcases List.mem_cons.mp hb with rfl | hb
    · exact h2
    · exact ih b hb
theorem ItmAll.back {K : PySem.W.Frag} {H H0 H1 : Hp} {σ : St} {S : Sta} {vs : List V} {its : List Itm} {as : List Addr} (h : ItmAll K H H1 σ S vs its as) (k : ∀ b, H1 b = none → H0 b = none) : ItmAll K H H0 σ S vs its as := by
  induction h with
  | nil => exact .nil
  | val h1 _ ih => exact .val h1 ih
  | own h1 h2 h3 h4 _ ih => exact .own h1 (k _ h2) h3 h4 ih
theorem OwnAt.known {K : PySem.W.Frag} {H : Hp} {a : Addr} {o : Own} (h : OwnAt K H a o) : H a ≠ none := by
  obtain ⟨u, e, _⟩ := h.at
  rw [e]; exact fun z => nomatch z
section
variable {X : Cx} {e : Expr} {es : List Expr} {pos : Pos}
theorem pmx_nil : PMX X [] pxNil := fun W _ => weakA pa_nil fun σ H Q => by
  rintro ⟨S, Q', E', rel, q, up, _⟩
  exact up _ _ _ _ _ .refl rel .nil q
theorem pmx_val {te : PTE} {t : PTX} (ha : PM X e te) (hr : PMX X es t) (hs : starEach (e :: es) X.env = (false, eval e X.env) :: starEach es X.env := by rfl) : PMX X (e :: es) (pxVal te t) := fun W tk => weakA (pa_cons (ha W tk) (hr W tk) hs) fun σ H Q => by
  rintro ⟨S, Q', E', rel, q, up, ux⟩
  refine ⟨S, _, E', rel, q, fun v d H1 S1 n1 r1 p1 q1 => ?_, ux⟩
  refine ⟨S1, _, E', r1, q1, fun vs its as H2 S2 n2 r2 p2 q2 => ?_, ux.thn n1⟩
  exact up _ _ _ _ _ (n1.trans n2) r2 (.val (p1.nx n2) (p2.back n1.kn)) q2
theorem pmx_own {te : PTO} {t : PTX} (ha : PMO X e te) (hr : PMX X es t) (hs : starEach (e :: es) X.env = (false, eval e X.env) :: starEach es X.env := by rfl) : PMX X (e :: es) (pxOwn te t) := fun W tk => weakA (pa_cons (ha W tk) (hr W tk) hs) fun σ H Q => by
  rintro ⟨S, Q', E', rel, q, up, ux⟩
  refine ⟨S, _, E', rel, q, fun a o H1 S1 n1 r1 ow hn no q1 => ?_, ux⟩
  refine ⟨S1, _, E', r1, q1, fun vs its as H2 S2 n2 r2 p2 q2 => ?_, ux.thn n1⟩
  have kn := ow.known
  refine up _ _ _ _ _ (n1.trans n2) r2 (.own (ow.step n2.st no) hn (fun z => ?_) (fun z => kn (p2.fresh _ z)) (p2.back n1.kn)) q2
  rcases n2.oa _ z with z | z
  · exact no z
  · exact kn z
end
def itS : Itm → Slot
  | .val d => .val d
  | .own o => .own o
def putX : List Nat → List Itm → List Slot → List Slot
  | i :: is, it :: its, ρ => putX is its (ρ.set i (itS it))
  | _, _, ρ => ρ
def putV : List Nat → List V → St → St
  | i :: is, v :: vs, σ => putV is vs (σ.set i (some v))
  | _, _, σ => σ
theorem ItmAll.oa {K : PySem.W.Frag} {H H0 : Hp} {σ σ' : St} {S S' : Sta} {vs : List V} {its : List Itm} {as : List Addr} (h : ItmAll K H H0 σ S vs its as) : (∀ b ∈ as, ¬ Oa σ S b → H b ≠ none → ¬ Oa σ' S' b) → ItmAll K H H0 σ' S' vs its as := by
  induction h with
  | nil => exact fun _ => .nil
  | val h1 _ ih => exact fun k => .val h1 (ih k)
  | own h1 h2 h3 h4 _ ih => exact fun k => .own h1 h2 (k _ (List.mem_cons_self ..) h3 h1.known) h4 (ih fun b hb => k b (List.mem_cons_of_mem _ hb))
theorem putX_ok {K : PySem.W.Frag} {H H0 : Hp} {σ0 : St} {S0 : Sta} : ∀ {is : List Nat} {its : List Itm} {vs : List V} {as : List Addr} {σ : St} {S : Sta}, Rel K H σ S → Nx σ0 S0 H0 σ S H → ItmAll K H H0 σ S vs its as →
    Nx σ0 S0 H0 (putV is vs σ) ⟨putX is its S.ρ, S.W⟩ H ∧ Rel K H (putV is vs σ) ⟨putX is its S.ρ, S.W⟩
  | [], its, vs, as, σ, S, r, n, h => by
    have e1 : putV [] vs σ = σ := by unfold putV; rfl
    have e2 : putX [] its S.ρ = S.ρ := by unfold putX; rfl
    rw [e1, e2]; exact ⟨n, r⟩
  | i :: is, [], [], [], σ, S, r, n, .nil => ⟨n, r⟩
  | i :: is, .val d :: its, v :: vs, as, σ, S, r, n, .val h t => by
    obtain ⟨n1, r1⟩ := r.put (i := i) h
    exact putX_ok (is := is) (as := as) r1 (n.trans n1) (t.oa fun b _ h1 h2 z => (n1.oa b z).elim h1 h2)
  | i :: is, .own o :: its, .ref a :: vs, _ :: as, σ, S, r, n, .own h1 h2 h3 h4 t => by
    obtain ⟨r1, oa⟩ := r.putOwn (i := i) h1 h3
    refine putX_ok (is := is) (as := as) r1 ⟨n.st, n.kn, fun x z => ?_⟩ (t.oa fun b hb g1 g2 z => (oa b z).elim g1 fun e => h4 (e ▸ hb))
    rcases oa x z with z | rfl
    · exact n.oa x z
    · exact .inr h2
theorem ItmAll.len {K : PySem.W.Frag} {H H0 : Hp} {σ : St} {S : Sta} {vs : List V} {its : List Itm} {as : List Addr} (h : ItmAll K H H0 σ S vs its as) : vs.length = its.length := by
  induction h with
  | nil => rfl
  | val _ _ ih => exact congrArg (· + 1) ih
  | own _ _ _ _ _ ih => exact congrArg (· + 1) ih
def pParX (js : List Nat) (t : PTX) : PTS := fun P S => t S (fun its S1 => its.length = js.length ∧ P.nx ⟨putX js its S1.ρ, S1.W⟩) P.ex
section
variable {X : Cx} {es : List Expr} {st : Stmt}
theorem pms_parX2 {i j : Nat} {t : PTX} (ha : PMX X es t) (h : ∀ ta, PA X es ta → L2.PS X st (tPar i j ta)) : PMS X st (pParX [i, j] t) := fun W tk => weakS (h _ (ha W tk)) fun D σ H => by
  rintro ⟨S, P, rel, q, up⟩
  refine ⟨S, _, _, rel, q, fun vs its as H1 S1 n1 r1 p1 q1 => ?_, up.ux⟩
  obtain ⟨hl, q1⟩ := q1
  have e := p1.len
  rw [hl] at e
  match vs, e with
  | [v, w], _ =>
    obtain ⟨n2, r2⟩ := putX_ok (is := [i, j]) r1 n1 p1
    exact ⟨v, w, rfl, up.nx _ _ _ n2 r2 q1⟩
theorem pms_parX3 {i j l : Nat} {t : PTX} (ha : PMX X es t) (h : ∀ ta, PA X es ta → L2.PS X st (tPar3 i j l ta)) : PMS X st (pParX [i, j, l] t) := fun W tk => weakS (h _ (ha W tk)) fun D σ H => by
  rintro ⟨S, P, rel, q, up⟩
  refine ⟨S, _, _, rel, q, fun vs its as H1 S1 n1 r1 p1 q1 => ?_, up.ux⟩
  obtain ⟨hl, q1⟩ := q1
  have e := p1.len
  rw [hl] at e
  match vs, e with
  | [v, w, u], _ =>
    obtain ⟨n2, r2⟩ := putX_ok (is := [i, j, l]) r1 n1 p1
    exact ⟨v, w, u, rfl, up.nx _ _ _ n2 r2 q1⟩
abbrev RAX := RG (List Itm)
def RMX (X : Cx) (es : List Expr) (r : RAX) : Prop := ∃ t, PMX X es t ∧ Snd t r
def rxNil : RAX := fun S k _ => k [] S
def rxVal (r : RE) (u : RAX) : RAX := fun S k e => r S (fun d S1 => u S1 (fun its S2 => k (.val d :: its) S2) e) e
def rxOwn (r : RG Own) (u : RAX) : RAX := fun S k e => r S (fun o S1 => u S1 (fun its S2 => k (.own o :: its) S2) e) e
def rParX (js : List Nat) (t : RAX) : RS := fun K S => t S (fun its S1 => if its.length = js.length then K.nx ⟨putX js its S1.ρ, S1.W⟩ else .bad) K.ex
variable {e : Expr}
theorem rmx_nil : RMX X [] rxNil := ⟨_, pmx_nil, fun A nb S k ex Q E hk he q => hk _ _ q⟩
theorem rmx_val {r : RE} {u : RAX} (ha : RM X e r) (hr : RMX X es u) (hs : starEach (e :: es) X.env = (false, eval e X.env) :: starEach es X.env := by rfl) : RMX X (e :: es) (rxVal r u) := by
  obtain ⟨ta, pa, sa⟩ := ha; obtain ⟨tb, pb, sb⟩ := hr
  exact ⟨_, pmx_val pa pb hs, fun A nb S k ex Q E hk he q => sa A nb S _ ex _ E (fun x S1 q1 => sb A nb S1 _ ex _ E (fun y S2 q2 => hk _ _ q2) he q1) he q⟩
theorem rmx_own {r : RG Own} {u : RAX} (ha : RMO X e r) (hr : RMX X es u) (hs : starEach (e :: es) X.env = (false, eval e X.env) :: starEach es X.env := by rfl) : RMX X (e :: es) (rxOwn r u) := by
  obtain ⟨ta, pa, sa⟩ := ha; obtain ⟨tb, pb, sb⟩ := hr
  exact ⟨_, pmx_own pa pb hs, fun A nb S k ex Q E hk he q => sa A nb S _ ex _ E (fun x S1 q1 => sb A nb S1 _ ex _ E (fun y S2 q2 => hk _ _ q2) he q1) he q⟩
theorem snd_parX {js : List Nat} {t : PTX} {r : RAX} (h : Snd t r) : SndS (pParX js t) (rParX js r) := fun A nb K P S a q => h A nb S _ _ _ _ (fun its S1 q1 => by
  obtain ⟨h1, h2⟩ := bad_if nb q1
  exact ⟨h1, a.nx _ h2⟩) a.ex q
theorem rms_parX2 {i j : Nat} {r : RAX} (ha : RMX X es r) (h : ∀ ta, PA X es ta → L2.PS X st (tPar i j ta)) : RMS X st (rParX [i, j] r) := by
  obtain ⟨ta, pa, sa⟩ := ha
  exact ⟨_, pms_parX2 pa h, snd_parX sa⟩
theorem rms_parX3 {i j l : Nat} {r : RAX} (ha : RMX X es r) (h : ∀ ta, PA X es ta → L2.PS X st (tPar3 i j l ta)) : RMS X st (rParX [i, j, l] r) := by
  obtain ⟨ta, pa, sa⟩ := ha
  exact ⟨_, pms_parX3 pa h, snd_parX sa⟩
end
/-! ### a store as a target -/
section
variable {X : Cx} {vs : List Nat} {a b : Expr} {pos : Pos}
def pgSub (tk : PTK) (ti : PTE) : PTG := fun d S Q => tk S (fun p S1 => ti S1 (fun i S2 => setC (con S2 p) i d fun o' => Q (putC S2 p o')) noX) noX
theorem noX_up {K : PySem.W.Frag} {σ : St} {S : Sta} {H : Hp} {W : WX} : UpX K σ S H W noX := fun _ _ _ _ _ _ _ _ z => z.elim
theorem pmg_sub {tk : PTK} {ti : PTE} (hk : PK X a tk) (hi : PM X b ti) (hs : PSet X (fun o i v H Q => rSetL o i v H Q ∨ rSetD o i v H Q))
    (ha : ∀ v, assign (.Subscript a b pos) X.env v = (do
      let ov ← holding [v] (eval a X.env)
      let iv ← holding [v, ov] (eval b X.env)
      standAt pos
      holding [v, ov, iv] (setItem ov iv v)
      release [v, ov, iv] []) := by intro _; rfl) : PMG X vs (.Subscript a b pos) (pgSub tk ti) :=
  weakG (pg_sub (hk (fun _ _ _ _ => False) takes0) (hi (fun _ _ _ _ => False) takes0) hs ha) fun v σ H Q => by
  rintro ⟨d, S, Q', rel, rp0, q, up⟩
  refine ⟨S, _, _, rel, q, fun x p H2 S2 n2 r2 p2 q2 => ?_, noX_up⟩
  refine ⟨S2, _, _, r2, q2, fun y i H3 S3 n3 r3 p3 q3 => ?_, noX_up⟩
  have rd := (rp0.nx n2).nx n3
  have rp := p2.nx n3
  have nn := n2.trans n3
  simp only [setC] at q3
  split at q3
  · rename_i xs hc
    obtain ⟨k, j, rfl, hj, q3⟩ := q3
    obtain ⟨a, rfl, ⟨ys, ha, ra⟩, mt⟩ := r3.mut hc rp
    cases p3
    obtain ⟨nx, r'⟩ := mt (.lst (xs.set j d)) (.lst (ys.set j v)) fun H4 st h4 => ⟨_, h4, RepAll.set (rd.step st) j (ra.step st)⟩
    exact .inl ⟨a, ys, k, j, rfl, rfl, ha, by rw [ra.length]; exact hj, up _ _ _ rfl (nn.trans nx) r' q3⟩
  · rename_i ks vs hc
    obtain ⟨hk, hl, q3⟩ := q3
    obtain ⟨k, hk⟩ := Option.isSome_iff_exists.mp hk
    have ek := keyK_some hk
    subst ek
    obtain ⟨a, rfl, ⟨kvs, ha, rfl, ra⟩, mt⟩ := r3.mut hc rp
    obtain ⟨nx, r'⟩ := mt (.dct (dput (kvs.map fun p => keyD p.1) vs (keyD k) d).1 (dput (kvs.map fun p => keyD p.1) vs (keyD k) d).2) (.dK (putK kvs k v)) fun H4 st h4 =>
      ⟨_, h4, (dput_rep (rd.step st) (ra.step st)).1, (dput_rep (rd.step st) (ra.step st)).2⟩
    refine .inr ⟨a, _, rfl, ?_, up _ _ _ rfl (nn.trans nx) r' q3⟩
    rw [keyV p3]
    exact .k ha (by rw [← List.length_map (f := fun p : Key × V => keyD p.1)]; exact hl)
  · exact q3.elim
def rgSub (rk : RG Pk) (ri : RE) : RTg := fun d S k => rk S (fun p S1 => ri S1 (fun i S2 => thnO (fsetC (con S2 p) i d) fun o => k (putC S2 p o)) badX) badX
theorem rmg_sub {rk : RG Pk} {ri : RE} (hk : RMK X a rk) (hi : RM X b ri) (hs : PSet X (fun o i v H Q => rSetL o i v H Q ∨ rSetD o i v H Q))
    (ha : ∀ v, assign (.Subscript a b pos) X.env v = (do
      let ov ← holding [v] (eval a X.env)
      let iv ← holding [v, ov] (eval b X.env)
      standAt pos
      holding [v, ov, iv] (setItem ov iv v)
      release [v, ov, iv] []) := by intro _; rfl) : RMG X vs (.Subscript a b pos) (rgSub rk ri) := by
  obtain ⟨tk, pk, sk⟩ := hk; obtain ⟨ti, pi, si⟩ := hi
  refine ⟨_, pmg_sub pk pi hs ha, fun A nb d S k Q hk q => sk A nb S _ _ _ _ (fun p S1 q1 => si A nb S1 _ _ _ _ (fun i S2 q2 => ?_) (fun _ _ z => absurd z nb) q1) (fun _ _ z => absurd z nb) q⟩
  obtain ⟨z, e1, e2⟩ := thnO_ok nb q2
  exact setC_sound e1 (hk _ e2)
end
/-! ### sorted -/
def insI (x : Int) : List Int → List Int
  | [] => [x]
  | y :: r => if x ≤ y then x :: y :: r else y :: insI x r
def isort : List Int → List Int
  | [] => []
  | x :: r => insI x (isort r)
theorem insI_perm (x : Int) : ∀ l, (insI x l).Perm (x :: l)
  | [] => .refl _
  | y :: r => by
    unfold insI
    split
    · exact .refl _
    · exact ((insI_perm x r).cons y).trans (.swap x y r)
theorem isort_perm : ∀ l, (isort l).Perm l
  | [] => .refl _
  | x :: r => (insI_perm x _).trans ((isort_perm r).cons x)
theorem insI_sorted (x : Int) : ∀ l, l.Pairwise (· ≤ ·) → (insI x l).Pairwise (· ≤ ·)
  | [], _ => by simp [insI]
  | y :: r, h => by
    unfold insI
    obtain ⟨h1, h2⟩ := List.pairwise_cons.mp h
    split
    · rename_i hx
      refine List.pairwise_cons.mpr ⟨fun z hz => ?_, h⟩
      rcases List.mem_cons.mp hz with rfl | hz
      · exact hx
      · exact Int.le_trans hx (h1 z hz)
    · rename_i hx
      refine List.pairwise_cons.mpr ⟨fun z hz => ?_, insI_sorted x r h2⟩
      rcases List.mem_cons.mp ((insI_perm x r).mem_iff.mp hz) with rfl | hz
      · omega
      · exact h1 z hz
theorem isort_sorted : ∀ l, (isort l).Pairwise (· ≤ ·)
  | [] => .nil
  | x :: r => insI_sorted x _ (isort_sorted r)
theorem isort_uniq {a b : List Int} (h : a.Perm b) (hs : a.Pairwise (· ≤ ·)) : a = isort b :=
  (h.trans (isort_perm b).symm).eq_of_pairwise (fun x y _ _ h1 h2 => Int.le_antisymm h1 h2) hs (isort_sorted b)
def oSorted : OpN := fun ds Q => ∃ xs ns, ds = [.lst xs] ∧ intsD xs = some ns ∧ Q (.lst ((isort ns).map D.int))
theorem rep_ints {K : PySem.W.Frag} {H : Hp} : ∀ ns : List Int, RepAll K H (ns.map V.int) (ns.map D.int)
  | [] => .nil
  | n :: r => .cons (.int n) (rep_ints r)
theorem cd_sorted {X : Cx} : CallD X (.builtin "sorted") oSorted := ⟨_, CallR_frz cr_sortedI, fun H xs ds Q Q' r o f => by
  obtain ⟨ys, ns, rfl, h1, q⟩ := o
  obtain ⟨v, rfl, rv⟩ := rep1 r
  cases rv with
  | lst hq ha =>
    obtain rfl := ints_rep ha h1
    refine ⟨_, ns, rfl, hq.sq, fun ns' p hp hs hn => ?_⟩
    rw [isort_uniq hp hs]
    exact f.newL hn (rep_ints _) q⟩
def fSorted (ds : List D) : Option D := match ds with
  | [.lst xs] => (intsD xs).map fun ns => .lst ((isort ns).map D.int)
  | _ => none
theorem cf_sorted {X : Cx} : CallFn X (.builtin "sorted") fSorted := ⟨_, cd_sorted, fun x z Q h q => by
  unfold fSorted at h
  split at h
  · obtain ⟨c, h1, rfl⟩ := Option.map_eq_some_iff.mp h; exact ⟨_, c, rfl, h1, q⟩
  · cases h⟩
/-! ### list(a dict) -/
def rListF : List V → Hp → VK → Prop := fun xs H Q => ∃ p kvs, xs = [.ref p] ∧ Rd H p (.dK kvs) ∧ ∀ q, H q = none → Q (.ref q) (upd H q (.lst (kvs.map fun kv => kV kv.1)))
theorem call_list_dF {X : Cx} (hc : X.calm = true) : CallR X (.type "list") rListF := by
  intro pins s σ H xs us Q I r h
  obtain ⟨p, kvs, e, hk, q⟩ := h
  subst e
  obtain ⟨u, eu, rx⟩ := vals1 r
  subst eu
  obtain rfl : u = Value.ref p := rx
  obtain ⟨z, lo, vs, rk, hd⟩ := dk_rd I.hok hk
  obtain ⟨ep, hat⟩ := hd.dictAt
  have hl : kvs.length = vs.length := Paired.length rk
  refine PySem.W.kdl_call (PySem.W.kdl_dict (knd := mixKind X.prog X.w) (kvs := vs) (ep := ep) lo) (I.ok.hd hc) hat (by rw [← hl]; exact z) fun h' tk acc' c' hkeep hS hacc => ?_
  refine ⟨.ref s.heap.objs.size, upd H s.heap.objs.size (.lst (kvs.map fun kv => kV kv.1)), I.laid hkeep (Nat.le_refl _) (show ObjOk X.prog X.w _ _ _ (.lst (kvs.map fun kv => kV kv.1)) from ⟨?_, acc'.toList, c', ?_, ?_⟩), rfl, q _ (I.hok.fresh (Nat.le_refl _))⟩
  · rw [List.length_map]; exact z
  · have el : acc'.toList.length = acc'.size := by simp
    refine vals_of_at (by rw [List.length_map, el, hacc.1, hl]) fun j x w h1 h2 => ?_
    obtain ⟨k, y, hky, hi⟩ := hacc.2 j w (by rw [← Array.getElem?_toList]; exact h2)
    have e1 : (kvs.map (·.1))[j]? = some k := by
      rw [KV.keys rk, List.getElem?_map, hky] <;> rfl
    have e2 : (kvs.map fun kv => kV kv.1)[j]? = some (kV k) := by
      have e3 : (kvs.map fun kv => kV kv.1) = (kvs.map (·.1)).map kV := by rw [List.map_map] <;> rfl
      rw [e3, List.getElem?_map, e1] <;> rfl
    rw [e2] at h1
    cases h1
    exact keyIs_rel hi
  · rw [Array.toArray_toList]; exact hS
theorem rep_keys {K : PySem.W.Frag} {H : Hp} : ∀ kvs : List (Key × V), RepAll K H (kvs.map fun kv => kV kv.1) (kvs.map fun p => keyD p.1)
  | [] => .nil
  | (k, v) :: r => .cons (by cases k <;> constructor) (rep_keys r)
def oListD : OpN := fun ds Q => ∃ ks vs, ds = [.dct ks vs] ∧ Q (.lst ks)
theorem cd_listD {X : Cx} (hc : X.calm = true) : CallD X (.type "list") oListD := ⟨_, CallR_frz (call_list_dF hc), fun H xs ds Q Q' r o f => by
  obtain ⟨ks, vs, rfl, q⟩ := o
  obtain ⟨v, rfl, rv⟩ := rep1 r
  cases rv with
  | dct he ha => exact ⟨_, _, rfl, .inr ⟨_, he⟩, fun p hn => f.newL hn (rep_keys _) q⟩⟩
theorem CallD_or {X : Cx} {v : Value} {o o' : OpN} (h : CallD X v o) (h' : CallD X v o') : CallD X v (fun ds Q => o ds Q ∨ o' ds Q) := by
  obtain ⟨r, hr, hl⟩ := h; obtain ⟨r', hr', hl'⟩ := h'
  refine ⟨fun xs H Q => r xs H Q ∨ r' xs H Q, fun pins s σ H x v Q I rx q => ?_, fun H xs ds Q Q' rp o f => ?_⟩
  · rcases q with q | q
    · exact hr pins s σ H x v Q I rx q
    · exact hr' pins s σ H x v Q I rx q
  · rcases o with o | o
    · exact .inl (hl H xs ds Q Q' rp o f)
    · exact .inr (hl' H xs ds Q Q' rp o f)
def fListA (ds : List D) : Option D := match ds with
  | [.tup xs] => some (.lst xs)
  | [.lst xs] => some (.lst xs)
  | [.dct ks _] => some (.lst ks)
  | _ => none
theorem cf_listA {X : Cx} (hc : X.calm = true) : CallFn X (.type "list") fListA := ⟨_, CallD_or cd_list (cd_listD hc), fun x z Q h q => by
  unfold fListA at h
  split at h
  · cases h; exact .inl q
  · cases h; exact .inl q
  · cases h; exact .inr ⟨_, _, rfl, q⟩
  · cases h⟩
def whN : Nat := 1000000000
end Pl
set_option Elab.async false
set_option linter.all false
set_option maxRecDepth 100000
set_option maxHeartbeats 4000000
/-! RlK: lemmas by which runs are computed (families by slot printed by mkRlK.py) -/
namespace Pl
open PySem PySem.Spec L2
def kS (i : Nat) (K : Ks) : D → Sta → Out := fun d S1 => K.nx ⟨S1.ρ.set i (.val d), S1.W⟩
def kSO (i : Nat) (K : Ks) : Own → Sta → Out := fun o S1 => K.nx ⟨S1.ρ.set i (.own o), S1.W⟩
theorem rSet_eq (i : Nat) (r : RE) (K : Ks) (S : Sta) : rSet i r K S = r S (kS i K) K.ex := rfl
theorem rSetO_eq (i : Nat) (r : RG Own) (K : Ks) (S : Sta) : rSetO i r K S = r S (kSO i K) K.ex := rfl
def kPr (i j : Nat) (K : Ks) : List D → Sta → Out := fun ds S1 => match ds with
  | [x, y] => kS i { K with nx := kS j K y } x S1
  | _ => .bad
theorem rPar_eq (i j : Nat) (r : RA) (K : Ks) (S : Sta) : rPar i j r K S = r S (kPr i j K) K.ex := rfl
theorem kPr_mk (i j : Nat) (K : Ks) (x y : D) (S : Sta) : kPr i j K [x, y] S = kS i { K with nx := kS j K y } x S := rfl
def kPX : List Nat → Ks → List Itm → Sta → Out
  | i :: js, K, .val d :: its, S => kS i { K with nx := kPX js K its } d S
  | i :: js, K, .own o :: its, S => kSO i { K with nx := kPX js K its } o S
  | [], K, [], S => K.nx S
  | _, _, _, _ => .bad
theorem kPX_eq : ∀ (js : List Nat) (K : Ks) (its : List Itm) (S : Sta), (if its.length = js.length then K.nx ⟨putX js its S.ρ, S.W⟩ else .bad) = kPX js K its S
  | [], K, [], S => rfl
  | [], K, _ :: _, S => rfl
  | _ :: _, K, [], S => rfl
  | i :: js, K, .val d :: its, S => by
    have := kPX_eq js K its ⟨S.ρ.set i (.val d), S.W⟩
    simp only [List.length_cons, Nat.add_right_cancel_iff] at this ⊢
    exact this
  | i :: js, K, .own d :: its, S => by
    have := kPX_eq js K its ⟨S.ρ.set i (.own d), S.W⟩
    simp only [List.length_cons, Nat.add_right_cancel_iff] at this ⊢
    exact this
theorem rParX_eq (js : List Nat) (t : RAX) (K : Ks) (S : Sta) : rParX js t K S = t S (fun its S1 => kPX js K its S1) K.ex := by
  simp only [rParX, kPX_eq]
theorem kPX_v (i : Nat) (js : List Nat) (K : Ks) (d : D) (its : List Itm) (S : Sta) : kPX (i :: js) K (.val d :: its) S = kS i { K with nx := kPX js K its } d S := rfl
theorem kPX_o (i : Nat) (js : List Nat) (K : Ks) (d : Own) (its : List Itm) (S : Sta) : kPX (i :: js) K (.own d :: its) S = kSO i { K with nx := kPX js K its } d S := rfl
theorem kPX_n (K : Ks) (S : Sta) : kPX [] K [] S = K.nx S := rfl
theorem rPart_none (S : Sta) (k : Option Int → Sta → Out) (e : RX) : rPart none S k e = k none S := rfl
def kPt (k : Option Int → Sta → Out) : D → Sta → Out := fun d S1 => match d with
  | .int i => k (some i) S1
  | _ => .bad
theorem rPart_some (r : RE) (S : Sta) (k : Option Int → Sta → Out) (e : RX) : rPart (some r) S k e = r S (kPt k) e := rfl
theorem kPt_i (k : Option Int → Sta → Out) (i : Int) (S : Sta) : kPt k (.int i) S = k (some i) S := rfl
theorem thnO_none {β : Type} (k : β → Out) : thnO none k = .bad := rfl
theorem thnO_ite {β : Type} (c : Prop) [Decidable c] (a : β) (k : β → Out) : thnO (if c then some a else none) k = if c then k a else .bad := by split <;> rfl
theorem blK_bl (b : Bool) (k : Bool → Out) : blK (.bl b) k = k b := rfl
theorem fAdd_i (i j : Int) : fAdd (.int i) (.int j) = some (.int (i + j)) := rfl
theorem fAdd_s (x y : Str) : fAdd (.str x) (.str y) = if x.length + y.length ≤ sizeLine then some (.str (x ++ y)) else none := rfl
theorem fAdd_t (x y : List D) : fAdd (.tup x) (.tup y) = if x.length + y.length ≤ sizeLine then some (.tup (x ++ y)) else none := rfl
theorem fAdd_l (x y : List D) : fAdd (.lst x) (.lst y) = if x.length + y.length ≤ sizeLine then some (.lst (x ++ y)) else none := rfl
theorem fSub_i (i j : Int) : fSub (.int i) (.int j) = some (.int (i - j)) := rfl
theorem fMul_i (i j : Int) : fMul (.int i) (.int j) = if cMul i j = true then some (.int (i * j)) else none := rfl
theorem fDiv_i (i j : Int) : fDiv (.int i) (.int j) = if cDv i j = true then some (.int (i / j)) else none := rfl
theorem fMod_i (i j : Int) : fMod (.int i) (.int j) = if cMod i j = true then some (.int (i % j)) else none := rfl
theorem fPow_i (i j : Int) : fPow (.int i) (.int j) = if cPow i j = true then some (.int (gPow i j)) else none := rfl
theorem fLt_i (i j : Int) : fLt (.int i) (.int j) = some (.bl (decide (i < j))) := rfl
theorem fLe_i (i j : Int) : fLe (.int i) (.int j) = some (.bl (decide (i ≤ j))) := rfl
theorem fGt_i (i j : Int) : fGt (.int i) (.int j) = some (.bl (decide (j < i))) := rfl
theorem fGe_i (i j : Int) : fGe (.int i) (.int j) = some (.bl (decide (j ≤ i))) := rfl
theorem fNeg_i (i : Int) : fNeg (.int i) = some (.int (-i)) := rfl
theorem fAbs_i (i : Int) : fAbs [.int i] = some (.int (gAbs i)) := rfl
theorem fInt1_i (i : Int) : fInt1 [.int i] = some (.int i) := rfl
theorem fMax2_i (i j : Int) : fMax2 [.int i, .int j] = some (.int (gMax i j)) := rfl
theorem fMin2_i (i j : Int) : fMin2 [.int i, .int j] = some (.int (gMin i j)) := rfl
theorem fIx_t (xs : List D) (i : Int) : fIx (.tup xs) (.int i) = atI xs i := rfl
theorem fIx_l (xs : List D) (i : Int) : fIx (.lst xs) (.int i) = atI xs i := rfl
theorem fixC_t (xs : List D) (i : Int) : fixC (.val (.tup xs)) (.int i) = atI xs i := rfl
theorem fixC_l (xs : List D) (i : Int) : fixC (.val (.lst xs)) (.int i) = atI xs i := rfl
theorem fixC_s (x : Str) (i : Int) : fixC (.val (.str x)) (.int i) = fIx (.str x) (.int i) := rfl
theorem fixC_d (ks vs : List D) (y : D) : fixC (.val (.dct ks vs)) y = if (keyK y).isSome = true then dget ks vs y else none := rfl
theorem fixC_ol (xs : List D) (i : Int) : fixC (.own (.lst xs)) (.int i) = atI xs i := rfl
theorem fixC_od (ks vs : List D) (y : D) : fixC (.own (.dct ks vs)) y = if (keyK y).isSome = true then dget ks vs y else none := rfl
theorem flenC_t (xs : List D) : flenC (.val (.tup xs)) = some (.int xs.length) := rfl
theorem flenC_l (xs : List D) : flenC (.val (.lst xs)) = some (.int xs.length) := rfl
theorem flenC_s (x : Str) : flenC (.val (.str x)) = if x.length ≤ sizeLine then some (.int x.length) else none := rfl
theorem flenC_ol (xs : List D) : flenC (.own (.lst xs)) = some (.int xs.length) := rfl
theorem flenC_od (ks vs : List D) : flenC (.own (.dct ks vs)) = some (.int ks.length) := rfl
theorem fSl_t (xs : List D) (lo hi : Option Int) : fSl (.tup xs) lo hi = some (.tup (cutD xs lo hi)) := rfl
theorem fSl_l (xs : List D) (lo hi : Option Int) : fSl (.lst xs) lo hi = some (.lst (cutD xs lo hi)) := rfl
theorem fListA_t (xs : List D) : fListA [.tup xs] = some (.lst xs) := rfl
theorem fListA_l (xs : List D) : fListA [.lst xs] = some (.lst xs) := rfl
theorem fListA_d (ks vs : List D) : fListA [.dct ks vs] = some (.lst ks) := rfl
theorem fTuple_t (xs : List D) : fTuple [.tup xs] = some (.tup xs) := rfl
theorem fTuple_l (xs : List D) : fTuple [.lst xs] = some (.tup xs) := rfl
theorem fIsi_eq (x : D) (T : String) : fIsi [x, .ty T] = if x.dat = true ∧ isiT T = true then some (.bl (isiB x T)) else none := rfl
theorem fEq_if (x y : D) (k : D → Out) : thnO (fEq x y) k = if x.good = true ∧ y.good = true then k (.bl (eqD x y)) else .bad := thnO_ite ..
theorem fNe_if (x y : D) (k : D → Out) : thnO (fNe x y) k = if x.good = true ∧ y.good = true then k (.bl (!eqD x y)) else .bad := thnO_ite ..
theorem fIn_t (neg : Bool) (x : D) (ys : List D) : fIn neg x (.tup ys) = if x.good = true ∧ D.good (.tup ys) = true then some (inB neg (ys.any fun z => eqD z x)) else none := rfl
theorem fIn_l (neg : Bool) (x : D) (ys : List D) : fIn neg x (.lst ys) = if x.good = true ∧ D.good (.lst ys) = true then some (inB neg (ys.any fun z => eqD z x)) else none := rfl
theorem inB_f (b : Bool) : inB false b = .bl b := rfl
theorem inB_t (b : Bool) : inB true b = .bl (!b) := rfl
theorem fIsN_n (neg : Bool) (x : D) : fIsN neg x .non = some (inB neg x.isN) := rfl
def kIt (k : List D → Sta → Out) : D → Sta → Out := fun d S1 => match d with
  | .lst xs => k xs S1
  | .tup xs => k xs S1
  | _ => .bad
theorem rIter_eq (r : RE) (S : Sta) (k : List D → Sta → Out) (e : RX) : rIter r S k e = r S (kIt k) e := rfl
theorem kIt_l (k : List D → Sta → Out) (xs : List D) (S : Sta) : kIt k (.lst xs) S = k xs S := rfl
theorem kIt_t (k : List D → Sta → Out) (xs : List D) (S : Sta) : kIt k (.tup xs) S = k xs S := rfl
def kRg (k : List D → Sta → Out) : List D → Sta → Out := fun ds S1 => match ds with
  | [.int j] => if bnd62 j = true then k (rangeD 0 j.toNat) S1 else .bad
  | _ => .bad
theorem rRng1_eq (r : RA) (S : Sta) (k : List D → Sta → Out) (e : RX) : rRng1 r S k e = r S (kRg k) e := rfl
theorem kRg_i (k : List D → Sta → Out) (j : Int) (S : Sta) : kRg k [.int j] S = if bnd62 j = true then k (rangeD 0 j.toNat) S else .bad := rfl
def kRg2 (k : List D → Sta → Out) : List D → Sta → Out := fun ds S1 => match ds with
  | [.int i, .int j] => if bnd62 i = true ∧ bnd62 j = true then k (rangeD i (j - i).toNat) S1 else .bad
  | _ => .bad
theorem rRng2_eq (r : RA) (S : Sta) (k : List D → Sta → Out) (e : RX) : rRng2 r S k e = r S (kRg2 k) e := rfl
theorem kRg2_i (k : List D → Sta → Out) (i j : Int) (S : Sta) : kRg2 k [.int i, .int j] S = if bnd62 i = true ∧ bnd62 j = true then k (rangeD i (j - i).toNat) S else .bad := rfl
def kTb (tab : List (Str × D)) (k : D → Sta → Out) : D → Sta → Out := fun y S1 => match y with
  | .str z => thnO (tab.lookup z) fun d => k d S1
  | _ => .bad
theorem rTabG_eq (tab : List (Str × D)) (r : RE) (S : Sta) (k : D → Sta → Out) (e : RX) : rTabG tab r S k e = r S (kTb tab k) e := rfl
theorem kTb_s (tab : List (Str × D)) (k : D → Sta → Out) (z : Str) (S : Sta) : kTb tab k (.str z) S = thnO (tab.lookup z) fun d => k d S := rfl
theorem outK_rt (d : D) (W : Wt) (k : D → Wt → Out) (e : Exn → Wt → Out) : outK (.rt d W) k e = k d W := rfl
theorem outK_ex (x : Exn) (W : Wt) (k : D → Wt → Out) (e : Exn → Wt → Out) : outK (.ex x W) k e = e x W := rfl
theorem rgTup_mk (n : Nat) (u : RTgs) (ds : List D) (S : Sta) (k : Sta → Out) : rgTup n u (.tup ds) S k = if ds.length = n then u ds S k else .bad := rfl
theorem rgCons_mk (t : RTg) (u : RTgs) (d : D) (r : List D) (S : Sta) (k : Sta → Out) : rgCons t u (d :: r) S k = t d S fun S1 => u r S1 k := rfl
theorem rgNil_mk (S : Sta) (k : Sta → Out) : rgNil [] S k = k S := rfl
def gN (i : Nat) (d : D) (S : Sta) (k : Sta → Out) : Out := k ⟨S.ρ.set i (.val d), S.W⟩
theorem rgName_eq (i : Nat) (d : D) (S : Sta) (k : Sta → Out) : rgName i d S k = gN i d S k := rfl
def kAp (r : RE) (K : Ks) : Pk → Sta → Out := fun p S1 => match con S1 p with
  | .own (.lst _) => r S1 (fun d S2 => match con S2 p with
    | .own (.lst xs) => if xs.length < sizeLine then K.nx (putC S2 p (.lst (xs ++ [d]))) else .bad
    | _ => .bad) K.ex
  | _ => .bad
theorem rAppend_eq (rk : RG Pk) (r : RE) (K : Ks) (S : Sta) : rAppend rk r K S = rk S (kAp r K) K.ex := rfl
def apK (p : Pk) (K : Ks) : D → Sta → Out := fun d S2 => match con S2 p with
  | .own (.lst xs) => if xs.length < sizeLine then K.nx (putC S2 p (.lst (xs ++ [d]))) else .bad
  | _ => .bad
def apC (c : Con) (o : Out) : Out := match c with
  | .own (.lst _) => o
  | _ => .bad
theorem apC_l (xs : List D) (o : Out) : apC (.own (.lst xs)) o = o := rfl
theorem kAp_eq (r : RE) (K : Ks) (p : Pk) (S : Sta) : kAp r K p S = apC (con S p) (r S (apK p K) K.ex) := rfl
def apD (c : Con) (k : List D → Out) : Out := match c with
  | .own (.lst xs) => k xs
  | _ => .bad
theorem apD_l (xs : List D) (k : List D → Out) : apD (.own (.lst xs)) k = k xs := rfl
theorem apK_eq (K : Ks) (p : Pk) (d : D) (S : Sta) : apK p K d S = apD (con S p) fun xs => if xs.length < sizeLine then K.nx (putC S p (.lst (xs ++ [d]))) else .bad := rfl
theorem fsetC_l (xs : List D) (k : Int) (d : D) : fsetC (.own (.lst xs)) (.int k) d = (ixN xs.length k).map fun j => .lst (xs.set j d) := rfl
theorem fsetC_d (ks vs : List D) (i d : D) : fsetC (.own (.dct ks vs)) i d = if (keyK i).isSome = true ∧ ks.length < sizeLine then some (.dct (dput ks vs i d).1 (dput ks vs i d).2) else none := rfl
theorem keyK_i (i : Int) : keyK (.int i) = some (.inl i) := rfl
theorem keyK_s (x : Str) : keyK (.str x) = some (.inr x) := rfl
theorem forR_nil (g : RTg) (tb : RS) (K : Ks) (S : Sta) : forR g tb K [] S = K.nx S := rfl
theorem forR_cons (g : RTg) (tb : RS) (K : Ks) (d : D) (r : List D) (S : Sta) : forR g tb K (d :: r) S = g d S fun S2 => tb { K with nx := forR g tb K r, ct := forR g tb K r, bk := K.nx } S2 := rfl
/-- a loop whose turns go on to a state -/
theorem forR_ind {α : Type} {g : RTg} {tb : RS} {K : Ks} (enc : α → D) (st : List α → Sta → Prop) (fin : Sta → Out → Prop)
    (h0 : ∀ S, st [] S → fin S (K.nx S))
    (h1 : ∀ x r S, st (x :: r) S → ∃ S', st r S' ∧ (∀ k, g (enc x) S (fun S2 => tb { K with nx := k, ct := k, bk := K.nx } S2) = k S') ∧ ∀ o, fin S' o → fin S o) : ∀ xs S, st xs S → fin S (forR g tb K (xs.map enc) S)
  | [], S, h => h0 S h
  | x :: r, S, h => by
    obtain ⟨S', h2, h3, h4⟩ := h1 x r S h
    have := forR_ind enc st fin h0 h1 r S' h2
    rw [List.map_cons, forR_cons, h3]
    exact h4 _ this
theorem forR_inv {α : Type} {g : RTg} {tb : RS} {K : Ks} (enc : α → D) (st : List α → Sta → Prop) {R : Out} (h0 : ∀ S, st [] S → K.nx S = R)
    (h1 : ∀ x r S, st (x :: r) S → ∀ k : Sta → Out, (∀ S', st r S' → k S' = R) → g (enc x) S (fun S2 => tb { K with nx := k, ct := k, bk := K.nx } S2) = R) : ∀ xs S, st xs S → forR g tb K (xs.map enc) S = R
  | [], S, h => h0 S h
  | x :: r, S, h => h1 x r S h _ fun S' h' => forR_inv enc st h0 h1 r S' h'
/-- a comprehension without a test -/
theorem lcR_map {α : Type} {g : RTg} {te : RE} {vs : List Nat} {k : D → Sta → Out} (enc : α → D) (f : α → D) {S : Sta} : ∀ (xs : List α) (acc : List D), acc.length + xs.length ≤ sizeLine → (∀ x ∈ xs, ∃ S', wipS S' vs = S ∧ ∀ k', g (enc x) S (fun S2 => te S2 k' badX) = k' (f x) S') →
    lcR g rYes te vs k (xs.map enc) acc S = k (.lst (acc ++ xs.map f)) S
  | [], acc, _, _ => by simp only [List.map_nil, List.append_nil, lcR]
  | x :: r, acc, hl, h => by
    obtain ⟨S', h1, h2⟩ := h x (List.mem_cons_self ..)
    simp only [List.map_cons, lcR, rYes, if_true]
    rw [h2, if_pos (by simp at hl; omega), h1, lcR_map enc f r _ (by simp at hl ⊢; omega) fun y hy => h y (List.mem_cons_of_mem _ hy)]
    simp
theorem lcR_nil (g : RTg) (tt : RT) (te : RE) (vs : List Nat) (k : D → Sta → Out) (acc : List D) (S : Sta) : lcR g tt te vs k [] acc S = k (.lst acc) S := rfl
def lcN (g : RTg) (tt : RT) (te : RE) (vs : List Nat) (k : D → Sta → Out) (r acc : List D) : D → Sta → Out := fun y S4 => if acc.length < sizeLine then lcR g tt te vs k r (acc ++ [y]) (wipS S4 vs) else .bad
theorem lcR_cons (g : RTg) (tt : RT) (te : RE) (vs : List Nat) (k : D → Sta → Out) (d : D) (r acc : List D) (S : Sta) : lcR g tt te vs k (d :: r) acc S = g d S fun S2 => tt S2 (fun b S3 => if b = true then te S3 (lcN g tt te vs k r acc) badX else lcR g tt te vs k r acc (wipS S3 vs)) badX := rfl
theorem lcN_eq (g : RTg) (tt : RT) (te : RE) (vs : List Nat) (k : D → Sta → Out) (r acc : List D) (y : D) (S : Sta) : lcN g tt te vs k r acc y S = if acc.length < sizeLine then lcR g tt te vs k r (acc ++ [y]) (wipS S vs) else .bad := rfl
theorem whR_succ (c : RT) (tb : RS) (K : Ks) (n : Nat) (S : Sta) : whR c tb K (n + 1) S = c S (fun b S1 => if b = true then tb { K with nx := whR c tb K n, ct := whR c tb K n, bk := K.nx } S1 else K.nx S1) K.ex := rfl
theorem rWhile_eq (n : Nat) (c : RT) (tb : RS) (K : Ks) (S : Sta) : rWhile n c tb K S = whR c tb K n S := rfl
theorem rFor_eq (ti : RA) (g : RTg) (tb : RS) (K : Ks) (S : Sta) : rFor ti g tb K S = ti S (fun ds S1 => forR g tb K ds S1) K.ex := rfl
theorem cutF1 (x : D) (r : List D) : cutD (x :: r) (some 1) none = r := cut_fromN _ 1
theorem cutF2 (x y : D) (r : List D) : cutD (x :: y :: r) (some 2) none = r := cut_fromN _ 2
theorem cutF3 (x y z : D) (r : List D) : cutD (x :: y :: z :: r) (some 3) none = r := cut_fromN _ 3
theorem cutT1 (x : D) (r : List D) : cutD (x :: r) none (some 1) = [x] := cut_toN _ 1
theorem cutT2 (x y : D) (r : List D) : cutD (x :: y :: r) none (some 2) = [x, y] := by
  have := cut_toN (x :: y :: r) 2
  simpa using this
theorem cutT3 (x y z : D) (r : List D) : cutD (x :: y :: z :: r) none (some 3) = [x, y, z] := by
  have := cut_toN (x :: y :: z :: r) 3
  simpa using this
theorem slt_0 : (0 < sizeLine) = True := by decide
theorem slt_1 : (1 < sizeLine) = True := by decide
theorem slt_2 : (2 < sizeLine) = True := by decide
theorem slt_3 : (3 < sizeLine) = True := by decide
theorem slt_4 : (4 < sizeLine) = True := by decide
theorem slt_5 : (5 < sizeLine) = True := by decide
theorem fSum_0 : fSum [.lst []] = some (.int 0) := rfl
theorem fSum_1 (a : Int) : fSum [.lst [.int a]] = some (.int a) := by simp [fSum, intsD]
theorem fSum_2 (a b : Int) : fSum [.lst [.int a, .int b]] = some (.int (a + b)) := by simp [fSum, intsD]
theorem fSum_ints (ns : List Int) : fSum [.lst (ns.map D.int)] = some (.int ns.sum) := by simp [fSum, ints_map]
theorem fAll_bls (bs : List Bool) : fAll [.lst (bs.map D.bl)] = some (.bl (bs.all id)) := by simp [fAll, bls_map]
theorem fAny_bls (bs : List Bool) : fAny [.lst (bs.map D.bl)] = some (.bl (bs.any id)) := by simp [fAny, bls_map]
theorem dec_ite {α : Type} (p : Prop) [Decidable p] (a b : α) : (if decide p = true then a else b) = if p then a else b := by simp
theorem ownD_l (xs : List D) : ownD (.lst xs) = .lst xs := rfl
theorem ownD_d (ks vs : List D) : ownD (.dct ks vs) = .dct ks vs := rfl
theorem rVarV0 (d : D) (r : List Slot) (W : Wt) (k : D → Sta → Out) (e : RX) : rVar 0 ⟨.val d :: r, W⟩ k e = k d ⟨.val d :: r, W⟩ := rfl
theorem rVarL0 (xs : List D) (r : List Slot) (W : Wt) (k : D → Sta → Out) (e : RX) : rVar 0 ⟨.own (.lst xs) :: r, W⟩ k e = k (.lst xs) ⟨.val (.lst xs) :: r, W⟩ := rfl
theorem rVarD0 (ks vs : List D) (r : List Slot) (W : Wt) (k : D → Sta → Out) (e : RX) : rVar 0 ⟨.own (.dct ks vs) :: r, W⟩ k e = k (.dct ks vs) ⟨.val (.dct ks vs) :: r, W⟩ := rfl
theorem rkVarV0 (d : D) (r : List Slot) (W : Wt) (k : Pk → Sta → Out) (e : RX) : rkVar 0 ⟨.val d :: r, W⟩ k e = k (.val d) ⟨.val d :: r, W⟩ := rfl
theorem rkVarO0 (o : Own) (r : List Slot) (W : Wt) (k : Pk → Sta → Out) (e : RX) : rkVar 0 ⟨.own o :: r, W⟩ k e = k (.slot 0) ⟨.own o :: r, W⟩ := rfl
theorem kSN0 (s : Slot) (d : D) (r : List Slot) (W : Wt) (K : Ks) : kS 0 K d ⟨s :: r, W⟩ = K.nx ⟨.val d :: r, W⟩ := rfl
theorem kSON0 (s : Slot) (o : Own) (r : List Slot) (W : Wt) (K : Ks) : kSO 0 K o ⟨s :: r, W⟩ = K.nx ⟨.own o :: r, W⟩ := rfl
theorem gNN0 (s : Slot) (d : D) (r : List Slot) (W : Wt) (k : Sta → Out) : gN 0 d ⟨s :: r, W⟩ k = k ⟨.val d :: r, W⟩ := rfl
theorem conO0 (o : Own) (r : List Slot) (W : Wt) : con ⟨.own o :: r, W⟩ (.slot 0) = .own o := rfl
theorem putO0 (s : Slot) (o : Own) (r : List Slot) (W : Wt) : putC ⟨s :: r, W⟩ (.slot 0) o = ⟨.own o :: r, W⟩ := rfl
theorem rVarV1 (s0 : Slot) (d : D) (r : List Slot) (W : Wt) (k : D → Sta → Out) (e : RX) : rVar 1 ⟨s0 :: .val d :: r, W⟩ k e = k d ⟨s0 :: .val d :: r, W⟩ := rfl
theorem rVarL1 (s0 : Slot) (xs : List D) (r : List Slot) (W : Wt) (k : D → Sta → Out) (e : RX) : rVar 1 ⟨s0 :: .own (.lst xs) :: r, W⟩ k e = k (.lst xs) ⟨s0 :: .val (.lst xs) :: r, W⟩ := rfl
theorem rVarD1 (s0 : Slot) (ks vs : List D) (r : List Slot) (W : Wt) (k : D → Sta → Out) (e : RX) : rVar 1 ⟨s0 :: .own (.dct ks vs) :: r, W⟩ k e = k (.dct ks vs) ⟨s0 :: .val (.dct ks vs) :: r, W⟩ := rfl
theorem rkVarV1 (s0 : Slot) (d : D) (r : List Slot) (W : Wt) (k : Pk → Sta → Out) (e : RX) : rkVar 1 ⟨s0 :: .val d :: r, W⟩ k e = k (.val d) ⟨s0 :: .val d :: r, W⟩ := rfl
theorem rkVarO1 (s0 : Slot) (o : Own) (r : List Slot) (W : Wt) (k : Pk → Sta → Out) (e : RX) : rkVar 1 ⟨s0 :: .own o :: r, W⟩ k e = k (.slot 1) ⟨s0 :: .own o :: r, W⟩ := rfl
theorem kSN1 (s0 : Slot) (s : Slot) (d : D) (r : List Slot) (W : Wt) (K : Ks) : kS 1 K d ⟨s0 :: s :: r, W⟩ = K.nx ⟨s0 :: .val d :: r, W⟩ := rfl
theorem kSON1 (s0 : Slot) (s : Slot) (o : Own) (r : List Slot) (W : Wt) (K : Ks) : kSO 1 K o ⟨s0 :: s :: r, W⟩ = K.nx ⟨s0 :: .own o :: r, W⟩ := rfl
theorem gNN1 (s0 : Slot) (s : Slot) (d : D) (r : List Slot) (W : Wt) (k : Sta → Out) : gN 1 d ⟨s0 :: s :: r, W⟩ k = k ⟨s0 :: .val d :: r, W⟩ := rfl
theorem conO1 (s0 : Slot) (o : Own) (r : List Slot) (W : Wt) : con ⟨s0 :: .own o :: r, W⟩ (.slot 1) = .own o := rfl
theorem putO1 (s0 : Slot) (s : Slot) (o : Own) (r : List Slot) (W : Wt) : putC ⟨s0 :: s :: r, W⟩ (.slot 1) o = ⟨s0 :: .own o :: r, W⟩ := rfl
theorem rVarV2 (s0 s1 : Slot) (d : D) (r : List Slot) (W : Wt) (k : D → Sta → Out) (e : RX) : rVar 2 ⟨s0 :: s1 :: .val d :: r, W⟩ k e = k d ⟨s0 :: s1 :: .val d :: r, W⟩ := rfl
theorem rVarL2 (s0 s1 : Slot) (xs : List D) (r : List Slot) (W : Wt) (k : D → Sta → Out) (e : RX) : rVar 2 ⟨s0 :: s1 :: .own (.lst xs) :: r, W⟩ k e = k (.lst xs) ⟨s0 :: s1 :: .val (.lst xs) :: r, W⟩ := rfl
theorem rVarD2 (s0 s1 : Slot) (ks vs : List D) (r : List Slot) (W : Wt) (k : D → Sta → Out) (e : RX) : rVar 2 ⟨s0 :: s1 :: .own (.dct ks vs) :: r, W⟩ k e = k (.dct ks vs) ⟨s0 :: s1 :: .val (.dct ks vs) :: r, W⟩ := rfl
theorem rkVarV2 (s0 s1 : Slot) (d : D) (r : List Slot) (W : Wt) (k : Pk → Sta → Out) (e : RX) : rkVar 2 ⟨s0 :: s1 :: .val d :: r, W⟩ k e = k (.val d) ⟨s0 :: s1 :: .val d :: r, W⟩ := rfl
theorem rkVarO2 (s0 s1 : Slot) (o : Own) (r : List Slot) (W : Wt) (k : Pk → Sta → Out) (e : RX) : rkVar 2 ⟨s0 :: s1 :: .own o :: r, W⟩ k e = k (.slot 2) ⟨s0 :: s1 :: .own o :: r, W⟩ := rfl
theorem kSN2 (s0 s1 : Slot) (s : Slot) (d : D) (r : List Slot) (W : Wt) (K : Ks) : kS 2 K d ⟨s0 :: s1 :: s :: r, W⟩ = K.nx ⟨s0 :: s1 :: .val d :: r, W⟩ := rfl
theorem kSON2 (s0 s1 : Slot) (s : Slot) (o : Own) (r : List Slot) (W : Wt) (K : Ks) : kSO 2 K o ⟨s0 :: s1 :: s :: r, W⟩ = K.nx ⟨s0 :: s1 :: .own o :: r, W⟩ := rfl
theorem gNN2 (s0 s1 : Slot) (s : Slot) (d : D) (r : List Slot) (W : Wt) (k : Sta → Out) : gN 2 d ⟨s0 :: s1 :: s :: r, W⟩ k = k ⟨s0 :: s1 :: .val d :: r, W⟩ := rfl
theorem conO2 (s0 s1 : Slot) (o : Own) (r : List Slot) (W : Wt) : con ⟨s0 :: s1 :: .own o :: r, W⟩ (.slot 2) = .own o := rfl
theorem putO2 (s0 s1 : Slot) (s : Slot) (o : Own) (r : List Slot) (W : Wt) : putC ⟨s0 :: s1 :: s :: r, W⟩ (.slot 2) o = ⟨s0 :: s1 :: .own o :: r, W⟩ := rfl
theorem rVarV3 (s0 s1 s2 : Slot) (d : D) (r : List Slot) (W : Wt) (k : D → Sta → Out) (e : RX) : rVar 3 ⟨s0 :: s1 :: s2 :: .val d :: r, W⟩ k e = k d ⟨s0 :: s1 :: s2 :: .val d :: r, W⟩ := rfl
theorem rVarL3 (s0 s1 s2 : Slot) (xs : List D) (r : List Slot) (W : Wt) (k : D → Sta → Out) (e : RX) : rVar 3 ⟨s0 :: s1 :: s2 :: .own (.lst xs) :: r, W⟩ k e = k (.lst xs) ⟨s0 :: s1 :: s2 :: .val (.lst xs) :: r, W⟩ := rfl
theorem rVarD3 (s0 s1 s2 : Slot) (ks vs : List D) (r : List Slot) (W : Wt) (k : D → Sta → Out) (e : RX) : rVar 3 ⟨s0 :: s1 :: s2 :: .own (.dct ks vs) :: r, W⟩ k e = k (.dct ks vs) ⟨s0 :: s1 :: s2 :: .val (.dct ks vs) :: r, W⟩ := rfl
theorem rkVarV3 (s0 s1 s2 : Slot) (d : D) (r : List Slot) (W : Wt) (k : Pk → Sta → Out) (e : RX) : rkVar 3 ⟨s0 :: s1 :: s2 :: .val d :: r, W⟩ k e = k (.val d) ⟨s0 :: s1 :: s2 :: .val d :: r, W⟩ := rfl
theorem rkVarO3 (s0 s1 s2 : Slot) (o : Own) (r : List Slot) (W : Wt) (k : Pk → Sta → Out) (e : RX) : rkVar 3 ⟨s0 :: s1 :: s2 :: .own o :: r, W⟩ k e = k (.slot 3) ⟨s0 :: s1 :: s2 :: .own o :: r, W⟩ := rfl
theorem kSN3 (s0 s1 s2 : Slot) (s : Slot) (d : D) (r : List Slot) (W : Wt) (K : Ks) : kS 3 K d ⟨s0 :: s1 :: s2 :: s :: r, W⟩ = K.nx ⟨s0 :: s1 :: s2 :: .val d :: r, W⟩ := rfl
theorem kSON3 (s0 s1 s2 : Slot) (s : Slot) (o : Own) (r : List Slot) (W : Wt) (K : Ks) : kSO 3 K o ⟨s0 :: s1 :: s2 :: s :: r, W⟩ = K.nx ⟨s0 :: s1 :: s2 :: .own o :: r, W⟩ := rfl
theorem gNN3 (s0 s1 s2 : Slot) (s : Slot) (d : D) (r : List Slot) (W : Wt) (k : Sta → Out) : gN 3 d ⟨s0 :: s1 :: s2 :: s :: r, W⟩ k = k ⟨s0 :: s1 :: s2 :: .val d :: r, W⟩ := rfl
theorem conO3 (s0 s1 s2 : Slot) (o : Own) (r : List Slot) (W : Wt) : con ⟨s0 :: s1 :: s2 :: .own o :: r, W⟩ (.slot 3) = .own o := rfl
theorem putO3 (s0 s1 s2 : Slot) (s : Slot) (o : Own) (r : List Slot) (W : Wt) : putC ⟨s0 :: s1 :: s2 :: s :: r, W⟩ (.slot 3) o = ⟨s0 :: s1 :: s2 :: .own o :: r, W⟩ := rfl
theorem rVarV4 (s0 s1 s2 s3 : Slot) (d : D) (r : List Slot) (W : Wt) (k : D → Sta → Out) (e : RX) : rVar 4 ⟨s0 :: s1 :: s2 :: s3 :: .val d :: r, W⟩ k e = k d ⟨s0 :: s1 :: s2 :: s3 :: .val d :: r, W⟩ := rfl
theorem rVarL4 (s0 s1 s2 s3 : Slot) (xs : List D) (r : List Slot) (W : Wt) (k : D → Sta → Out) (e : RX) : rVar 4 ⟨s0 :: s1 :: s2 :: s3 :: .own (.lst xs) :: r, W⟩ k e = k (.lst xs) ⟨s0 :: s1 :: s2 :: s3 :: .val (.lst xs) :: r, W⟩ := rfl
theorem rVarD4 (s0 s1 s2 s3 : Slot) (ks vs : List D) (r : List Slot) (W : Wt) (k : D → Sta → Out) (e : RX) : rVar 4 ⟨s0 :: s1 :: s2 :: s3 :: .own (.dct ks vs) :: r, W⟩ k e = k (.dct ks vs) ⟨s0 :: s1 :: s2 :: s3 :: .val (.dct ks vs) :: r, W⟩ := rfl
theorem rkVarV4 (s0 s1 s2 s3 : Slot) (d : D) (r : List Slot) (W : Wt) (k : Pk → Sta → Out) (e : RX) : rkVar 4 ⟨s0 :: s1 :: s2 :: s3 :: .val d :: r, W⟩ k e = k (.val d) ⟨s0 :: s1 :: s2 :: s3 :: .val d :: r, W⟩ := rfl
theorem rkVarO4 (s0 s1 s2 s3 : Slot) (o : Own) (r : List Slot) (W : Wt) (k : Pk → Sta → Out) (e : RX) : rkVar 4 ⟨s0 :: s1 :: s2 :: s3 :: .own o :: r, W⟩ k e = k (.slot 4) ⟨s0 :: s1 :: s2 :: s3 :: .own o :: r, W⟩ := rfl
theorem kSN4 (s0 s1 s2 s3 : Slot) (s : Slot) (d : D) (r : List Slot) (W : Wt) (K : Ks) : kS 4 K d ⟨s0 :: s1 :: s2 :: s3 :: s :: r, W⟩ = K.nx ⟨s0 :: s1 :: s2 :: s3 :: .val d :: r, W⟩ := rfl
theorem kSON4 (s0 s1 s2 s3 : Slot) (s : Slot) (o : Own) (r : List Slot) (W : Wt) (K : Ks) : kSO 4 K o ⟨s0 :: s1 :: s2 :: s3 :: s :: r, W⟩ = K.nx ⟨s0 :: s1 :: s2 :: s3 :: .own o :: r, W⟩ := rfl
theorem gNN4 (s0 s1 s2 s3 : Slot) (s : Slot) (d : D) (r : List Slot) (W : Wt) (k : Sta → Out) : gN 4 d ⟨s0 :: s1 :: s2 :: s3 :: s :: r, W⟩ k = k ⟨s0 :: s1 :: s2 :: s3 :: .val d :: r, W⟩ := rfl
theorem conO4 (s0 s1 s2 s3 : Slot) (o : Own) (r : List Slot) (W : Wt) : con ⟨s0 :: s1 :: s2 :: s3 :: .own o :: r, W⟩ (.slot 4) = .own o := rfl
theorem putO4 (s0 s1 s2 s3 : Slot) (s : Slot) (o : Own) (r : List Slot) (W : Wt) : putC ⟨s0 :: s1 :: s2 :: s3 :: s :: r, W⟩ (.slot 4) o = ⟨s0 :: s1 :: s2 :: s3 :: .own o :: r, W⟩ := rfl
theorem rVarV5 (s0 s1 s2 s3 s4 : Slot) (d : D) (r : List Slot) (W : Wt) (k : D → Sta → Out) (e : RX) : rVar 5 ⟨s0 :: s1 :: s2 :: s3 :: s4 :: .val d :: r, W⟩ k e = k d ⟨s0 :: s1 :: s2 :: s3 :: s4 :: .val d :: r, W⟩ := rfl
theorem rVarL5 (s0 s1 s2 s3 s4 : Slot) (xs : List D) (r : List Slot) (W : Wt) (k : D → Sta → Out) (e : RX) : rVar 5 ⟨s0 :: s1 :: s2 :: s3 :: s4 :: .own (.lst xs) :: r, W⟩ k e = k (.lst xs) ⟨s0 :: s1 :: s2 :: s3 :: s4 :: .val (.lst xs) :: r, W⟩ := rfl
theorem rVarD5 (s0 s1 s2 s3 s4 : Slot) (ks vs : List D) (r : List Slot) (W : Wt) (k : D → Sta → Out) (e : RX) : rVar 5 ⟨s0 :: s1 :: s2 :: s3 :: s4 :: .own (.dct ks vs) :: r, W⟩ k e = k (.dct ks vs) ⟨s0 :: s1 :: s2 :: s3 :: s4 :: .val (.dct ks vs) :: r, W⟩ := rfl
theorem rkVarV5 (s0 s1 s2 s3 s4 : Slot) (d : D) (r : List Slot) (W : Wt) (k : Pk → Sta → Out) (e : RX) : rkVar 5 ⟨s0 :: s1 :: s2 :: s3 :: s4 :: .val d :: r, W⟩ k e = k (.val d) ⟨s0 :: s1 :: s2 :: s3 :: s4 :: .val d :: r, W⟩ := rfl
theorem rkVarO5 (s0 s1 s2 s3 s4 : Slot) (o : Own) (r : List Slot) (W : Wt) (k : Pk → Sta → Out) (e : RX) : rkVar 5 ⟨s0 :: s1 :: s2 :: s3 :: s4 :: .own o :: r, W⟩ k e = k (.slot 5) ⟨s0 :: s1 :: s2 :: s3 :: s4 :: .own o :: r, W⟩ := rfl
theorem kSN5 (s0 s1 s2 s3 s4 : Slot) (s : Slot) (d : D) (r : List Slot) (W : Wt) (K : Ks) : kS 5 K d ⟨s0 :: s1 :: s2 :: s3 :: s4 :: s :: r, W⟩ = K.nx ⟨s0 :: s1 :: s2 :: s3 :: s4 :: .val d :: r, W⟩ := rfl
theorem kSON5 (s0 s1 s2 s3 s4 : Slot) (s : Slot) (o : Own) (r : List Slot) (W : Wt) (K : Ks) : kSO 5 K o ⟨s0 :: s1 :: s2 :: s3 :: s4 :: s :: r, W⟩ = K.nx ⟨s0 :: s1 :: s2 :: s3 :: s4 :: .own o :: r, W⟩ := rfl
theorem gNN5 (s0 s1 s2 s3 s4 : Slot) (s : Slot) (d : D) (r : List Slot) (W : Wt) (k : Sta → Out) : gN 5 d ⟨s0 :: s1 :: s2 :: s3 :: s4 :: s :: r, W⟩ k = k ⟨s0 :: s1 :: s2 :: s3 :: s4 :: .val d :: r, W⟩ := rfl
theorem conO5 (s0 s1 s2 s3 s4 : Slot) (o : Own) (r : List Slot) (W : Wt) : con ⟨s0 :: s1 :: s2 :: s3 :: s4 :: .own o :: r, W⟩ (.slot 5) = .own o := rfl
theorem putO5 (s0 s1 s2 s3 s4 : Slot) (s : Slot) (o : Own) (r : List Slot) (W : Wt) : putC ⟨s0 :: s1 :: s2 :: s3 :: s4 :: s :: r, W⟩ (.slot 5) o = ⟨s0 :: s1 :: s2 :: s3 :: s4 :: .own o :: r, W⟩ := rfl
theorem rVarV6 (s0 s1 s2 s3 s4 s5 : Slot) (d : D) (r : List Slot) (W : Wt) (k : D → Sta → Out) (e : RX) : rVar 6 ⟨s0 :: s1 :: s2 :: s3 :: s4 :: s5 :: .val d :: r, W⟩ k e = k d ⟨s0 :: s1 :: s2 :: s3 :: s4 :: s5 :: .val d :: r, W⟩ := rfl
theorem rVarL6 (s0 s1 s2 s3 s4 s5 : Slot) (xs : List D) (r : List Slot) (W : Wt) (k : D → Sta → Out) (e : RX) : rVar 6 ⟨s0 :: s1 :: s2 :: s3 :: s4 :: s5 :: .own (.lst xs) :: r, W⟩ k e = k (.lst xs) ⟨s0 :: s1 :: s2 :: s3 :: s4 :: s5 :: .val (.lst xs) :: r, W⟩ := rfl
theorem rVarD6 (s0 s1 s2 s3 s4 s5 : Slot) (ks vs : List D) (r : List Slot) (W : Wt) (k : D → Sta → Out) (e : RX) : rVar 6 ⟨s0 :: s1 :: s2 :: s3 :: s4 :: s5 :: .own (.dct ks vs) :: r, W⟩ k e = k (.dct ks vs) ⟨s0 :: s1 :: s2 :: s3 :: s4 :: s5 :: .val (.dct ks vs) :: r, W⟩ := rfl
theorem rkVarV6 (s0 s1 s2 s3 s4 s5 : Slot) (d : D) (r : List Slot) (W : Wt) (k : Pk → Sta → Out) (e : RX) : rkVar 6 ⟨s0 :: s1 :: s2 :: s3 :: s4 :: s5 :: .val d :: r, W⟩ k e = k (.val d) ⟨s0 :: s1 :: s2 :: s3 :: s4 :: s5 :: .val d :: r, W⟩ := rfl
theorem rkVarO6 (s0 s1 s2 s3 s4 s5 : Slot) (o : Own) (r : List Slot) (W : Wt) (k : Pk → Sta → Out) (e : RX) : rkVar 6 ⟨s0 :: s1 :: s2 :: s3 :: s4 :: s5 :: .own o :: r, W⟩ k e = k (.slot 6) ⟨s0 :: s1 :: s2 :: s3 :: s4 :: s5 :: .own o :: r, W⟩ := rfl
theorem kSN6 (s0 s1 s2 s3 s4 s5 : Slot) (s : Slot) (d : D) (r : List Slot) (W : Wt) (K : Ks) : kS 6 K d ⟨s0 :: s1 :: s2 :: s3 :: s4 :: s5 :: s :: r, W⟩ = K.nx ⟨s0 :: s1 :: s2 :: s3 :: s4 :: s5 :: .val d :: r, W⟩ := rfl
theorem kSON6 (s0 s1 s2 s3 s4 s5 : Slot) (s : Slot) (o : Own) (r : List Slot) (W : Wt) (K : Ks) : kSO 6 K o ⟨s0 :: s1 :: s2 :: s3 :: s4 :: s5 :: s :: r, W⟩ = K.nx ⟨s0 :: s1 :: s2 :: s3 :: s4 :: s5 :: .own o :: r, W⟩ := rfl
theorem gNN6 (s0 s1 s2 s3 s4 s5 : Slot) (s : Slot) (d : D) (r : List Slot) (W : Wt) (k : Sta → Out) : gN 6 d ⟨s0 :: s1 :: s2 :: s3 :: s4 :: s5 :: s :: r, W⟩ k = k ⟨s0 :: s1 :: s2 :: s3 :: s4 :: s5 :: .val d :: r, W⟩ := rfl
theorem conO6 (s0 s1 s2 s3 s4 s5 : Slot) (o : Own) (r : List Slot) (W : Wt) : con ⟨s0 :: s1 :: s2 :: s3 :: s4 :: s5 :: .own o :: r, W⟩ (.slot 6) = .own o := rfl
theorem putO6 (s0 s1 s2 s3 s4 s5 : Slot) (s : Slot) (o : Own) (r : List Slot) (W : Wt) : putC ⟨s0 :: s1 :: s2 :: s3 :: s4 :: s5 :: s :: r, W⟩ (.slot 6) o = ⟨s0 :: s1 :: s2 :: s3 :: s4 :: s5 :: .own o :: r, W⟩ := rfl
theorem rVarV7 (s0 s1 s2 s3 s4 s5 s6 : Slot) (d : D) (r : List Slot) (W : Wt) (k : D → Sta → Out) (e : RX) : rVar 7 ⟨s0 :: s1 :: s2 :: s3 :: s4 :: s5 :: s6 :: .val d :: r, W⟩ k e = k d ⟨s0 :: s1 :: s2 :: s3 :: s4 :: s5 :: s6 :: .val d :: r, W⟩ := rfl
theorem rVarL7 (s0 s1 s2 s3 s4 s5 s6 : Slot) (xs : List D) (r : List Slot) (W : Wt) (k : D → Sta → Out) (e : RX) : rVar 7 ⟨s0 :: s1 :: s2 :: s3 :: s4 :: s5 :: s6 :: .own (.lst xs) :: r, W⟩ k e = k (.lst xs) ⟨s0 :: s1 :: s2 :: s3 :: s4 :: s5 :: s6 :: .val (.lst xs) :: r, W⟩ := rfl
theorem rVarD7 (s0 s1 s2 s3 s4 s5 s6 : Slot) (ks vs : List D) (r : List Slot) (W : Wt) (k : D → Sta → Out) (e : RX) : rVar 7 ⟨s0 :: s1 :: s2 :: s3 :: s4 :: s5 :: s6 :: .own (.dct ks vs) :: r, W⟩ k e = k (.dct ks vs) ⟨s0 :: s1 :: s2 :: s3 :: s4 :: s5 :: s6 :: .val (.dct ks vs) :: r, W⟩ := rfl
theorem rkVarV7 (s0 s1 s2 s3 s4 s5 s6 : Slot) (d : D) (r : List Slot) (W : Wt) (k : Pk → Sta → Out) (e : RX) : rkVar 7 ⟨s0 :: s1 :: s2 :: s3 :: s4 :: s5 :: s6 :: .val d :: r, W⟩ k e = k (.val d) ⟨s0 :: s1 :: s2 :: s3 :: s4 :: s5 :: s6 :: .val d :: r, W⟩ := rfl
theorem rkVarO7 (s0 s1 s2 s3 s4 s5 s6 : Slot) (o : Own) (r : List Slot) (W : Wt) (k : Pk → Sta → Out) (e : RX) : rkVar 7 ⟨s0 :: s1 :: s2 :: s3 :: s4 :: s5 :: s6 :: .own o :: r, W⟩ k e = k (.slot 7) ⟨s0 :: s1 :: s2 :: s3 :: s4 :: s5 :: s6 :: .own o :: r, W⟩ := rfl
theorem kSN7 (s0 s1 s2 s3 s4 s5 s6 : Slot) (s : Slot) (d : D) (r : List Slot) (W : Wt) (K : Ks) : kS 7 K d ⟨s0 :: s1 :: s2 :: s3 :: s4 :: s5 :: s6 :: s :: r, W⟩ = K.nx ⟨s0 :: s1 :: s2 :: s3 :: s4 :: s5 :: s6 :: .val d :: r, W⟩ := rfl
theorem kSON7 (s0 s1 s2 s3 s4 s5 s6 : Slot) (s : Slot) (o : Own) (r : List Slot) (W : Wt) (K : Ks) : kSO 7 K o ⟨s0 :: s1 :: s2 :: s3 :: s4 :: s5 :: s6 :: s :: r, W⟩ = K.nx ⟨s0 :: s1 :: s2 :: s3 :: s4 :: s5 :: s6 :: .own o :: r, W⟩ := rfl
theorem gNN7 (s0 s1 s2 s3 s4 s5 s6 : Slot) (s : Slot) (d : D) (r : List Slot) (W : Wt) (k : Sta → Out) : gN 7 d ⟨s0 :: s1 :: s2 :: s3 :: s4 :: s5 :: s6 :: s :: r, W⟩ k = k ⟨s0 :: s1 :: s2 :: s3 :: s4 :: s5 :: s6 :: .val d :: r, W⟩ := rfl
theorem conO7 (s0 s1 s2 s3 s4 s5 s6 : Slot) (o : Own) (r : List Slot) (W : Wt) : con ⟨s0 :: s1 :: s2 :: s3 :: s4 :: s5 :: s6 :: .own o :: r, W⟩ (.slot 7) = .own o := rfl
theorem putO7 (s0 s1 s2 s3 s4 s5 s6 : Slot) (s : Slot) (o : Own) (r : List Slot) (W : Wt) : putC ⟨s0 :: s1 :: s2 :: s3 :: s4 :: s5 :: s6 :: s :: r, W⟩ (.slot 7) o = ⟨s0 :: s1 :: s2 :: s3 :: s4 :: s5 :: s6 :: .own o :: r, W⟩ := rfl
theorem rVarV8 (s0 s1 s2 s3 s4 s5 s6 s7 : Slot) (d : D) (r : List Slot) (W : Wt) (k : D → Sta → Out) (e : RX) : rVar 8 ⟨s0 :: s1 :: s2 :: s3 :: s4 :: s5 :: s6 :: s7 :: .val d :: r, W⟩ k e = k d ⟨s0 :: s1 :: s2 :: s3 :: s4 :: s5 :: s6 :: s7 :: .val d :: r, W⟩ := rfl
theorem rVarL8 (s0 s1 s2 s3 s4 s5 s6 s7 : Slot) (xs : List D) (r : List Slot) (W : Wt) (k : D → Sta → Out) (e : RX) : rVar 8 ⟨s0 :: s1 :: s2 :: s3 :: s4 :: s5 :: s6 :: s7 :: .own (.lst xs) :: r, W⟩ k e = k (.lst xs) ⟨s0 :: s1 :: s2 :: s3 :: s4 :: s5 :: s6 :: s7 :: .val (.lst xs) :: r, W⟩ := rfl
theorem rVarD8 (s0 s1 s2 s3 s4 s5 s6 s7 : Slot) (ks vs : List D) (r : List Slot) (W : Wt) (k : D → Sta → Out) (e : RX) : rVar 8 ⟨s0 :: s1 :: s2 :: s3 :: s4 :: s5 :: s6 :: s7 :: .own (.dct ks vs) :: r, W⟩ k e = k (.dct ks vs) ⟨s0 :: s1 :: s2 :: s3 :: s4 :: s5 :: s6 :: s7 :: .val (.dct ks vs) :: r, W⟩ := rfl
theorem rkVarV8 (s0 s1 s2 s3 s4 s5 s6 s7 : Slot) (d : D) (r : List Slot) (W : Wt) (k : Pk → Sta → Out) (e : RX) : rkVar 8 ⟨s0 :: s1 :: s2 :: s3 :: s4 :: s5 :: s6 :: s7 :: .val d :: r, W⟩ k e = k (.val d) ⟨s0 :: s1 :: s2 :: s3 :: s4 :: s5 :: s6 :: s7 :: .val d :: r, W⟩ := rfl
theorem rkVarO8 (s0 s1 s2 s3 s4 s5 s6 s7 : Slot) (o : Own) (r : List Slot) (W : Wt) (k : Pk → Sta → Out) (e : RX) : rkVar 8 ⟨s0 :: s1 :: s2 :: s3 :: s4 :: s5 :: s6 :: s7 :: .own o :: r, W⟩ k e = k (.slot 8) ⟨s0 :: s1 :: s2 :: s3 :: s4 :: s5 :: s6 :: s7 :: .own o :: r, W⟩ := rfl
theorem kSN8 (s0 s1 s2 s3 s4 s5 s6 s7 : Slot) (s : Slot) (d : D) (r : List Slot) (W : Wt) (K : Ks) : kS 8 K d ⟨s0 :: s1 :: s2 :: s3 :: s4 :: s5 :: s6 :: s7 :: s :: r, W⟩ = K.nx ⟨s0 :: s1 :: s2 :: s3 :: s4 :: s5 :: s6 :: s7 :: .val d :: r, W⟩ := rfl
theorem kSON8 (s0 s1 s2 s3 s4 s5 s6 s7 : Slot) (s : Slot) (o : Own) (r : List Slot) (W : Wt) (K : Ks) : kSO 8 K o ⟨s0 :: s1 :: s2 :: s3 :: s4 :: s5 :: s6 :: s7 :: s :: r, W⟩ = K.nx ⟨s0 :: s1 :: s2 :: s3 :: s4 :: s5 :: s6 :: s7 :: .own o :: r, W⟩ := rfl
theorem gNN8 (s0 s1 s2 s3 s4 s5 s6 s7 : Slot) (s : Slot) (d : D) (r : List Slot) (W : Wt) (k : Sta → Out) : gN 8 d ⟨s0 :: s1 :: s2 :: s3 :: s4 :: s5 :: s6 :: s7 :: s :: r, W⟩ k = k ⟨s0 :: s1 :: s2 :: s3 :: s4 :: s5 :: s6 :: s7 :: .val d :: r, W⟩ := rfl
theorem conO8 (s0 s1 s2 s3 s4 s5 s6 s7 : Slot) (o : Own) (r : List Slot) (W : Wt) : con ⟨s0 :: s1 :: s2 :: s3 :: s4 :: s5 :: s6 :: s7 :: .own o :: r, W⟩ (.slot 8) = .own o := rfl
theorem putO8 (s0 s1 s2 s3 s4 s5 s6 s7 : Slot) (s : Slot) (o : Own) (r : List Slot) (W : Wt) : putC ⟨s0 :: s1 :: s2 :: s3 :: s4 :: s5 :: s6 :: s7 :: s :: r, W⟩ (.slot 8) o = ⟨s0 :: s1 :: s2 :: s3 :: s4 :: s5 :: s6 :: s7 :: .own o :: r, W⟩ := rfl
theorem rVarV9 (s0 s1 s2 s3 s4 s5 s6 s7 s8 : Slot) (d : D) (r : List Slot) (W : Wt) (k : D → Sta → Out) (e : RX) : rVar 9 ⟨s0 :: s1 :: s2 :: s3 :: s4 :: s5 :: s6 :: s7 :: s8 :: .val d :: r, W⟩ k e = k d ⟨s0 :: s1 :: s2 :: s3 :: s4 :: s5 :: s6 :: s7 :: s8 :: .val d :: r, W⟩ := rfl
theorem rVarL9 (s0 s1 s2 s3 s4 s5 s6 s7 s8 : Slot) (xs : List D) (r : List Slot) (W : Wt) (k : D → Sta → Out) (e : RX) : rVar 9 ⟨s0 :: s1 :: s2 :: s3 :: s4 :: s5 :: s6 :: s7 :: s8 :: .own (.lst xs) :: r, W⟩ k e = k (.lst xs) ⟨s0 :: s1 :: s2 :: s3 :: s4 :: s5 :: s6 :: s7 :: s8 :: .val (.lst xs) :: r, W⟩ := rfl
theorem rVarD9 (s0 s1 s2 s3 s4 s5 s6 s7 s8 : Slot) (ks vs : List D) (r : List Slot) (W : Wt) (k : D → Sta → Out) (e : RX) : rVar 9 ⟨s0 :: s1 :: s2 :: s3 :: s4 :: s5 :: s6 :: s7 :: s8 :: .own (.dct ks vs) :: r, W⟩ k e = k (.dct ks vs) ⟨s0 :: s1 :: s2 :: s3 :: s4 :: s5 :: s6 :: s7 :: s8 :: .val (.dct ks vs) :: r, W⟩ := rfl
theorem rkVarV9 (s0 s1 s2 s3 s4 s5 s6 s7 s8 : Slot) (d : D) (r : List Slot) (W : Wt) (k : Pk → Sta → Out) (e : RX) : rkVar 9 ⟨s0 :: s1 :: s2 :: s3 :: s4 :: s5 :: s6 :: s7 :: s8 :: .val d :: r, W⟩ k e = k (.val d) ⟨s0 :: s1 :: s2 :: s3 :: s4 :: s5 :: s6 :: s7 :: s8 :: .val d :: r, W⟩ := rfl
theorem rkVarO9 (s0 s1 s2 s3 s4 s5 s6 s7 s8 : Slot) (o : Own) (r : List Slot) (W : Wt) (k : Pk → Sta → Out) (e : RX) : rkVar 9 ⟨s0 :: s1 :: s2 :: s3 :: s4 :: s5 :: s6 :: s7 :: s8 :: .own o :: r, W⟩ k e = k (.slot 9) ⟨s0 :: s1 :: s2 :: s3 :: s4 :: s5 :: s6 :: s7 :: s8 :: .own o :: r, W⟩ := rfl
theorem kSN9 (s0 s1 s2 s3 s4 s5 s6 s7 s8 : Slot) (s : Slot) (d : D) (r : List Slot) (W : Wt) (K : Ks) : kS 9 K d ⟨s0 :: s1 :: s2 :: s3 :: s4 :: s5 :: s6 :: s7 :: s8 :: s :: r, W⟩ = K.nx ⟨s0 :: s1 :: s2 :: s3 :: s4 :: s5 :: s6 :: s7 :: s8 :: .val d :: r, W⟩ := rfl
theorem kSON9 (s0 s1 s2 s3 s4 s5 s6 s7 s8 : Slot) (s : Slot) (o : Own) (r : List Slot) (W : Wt) (K : Ks) : kSO 9 K o ⟨s0 :: s1 :: s2 :: s3 :: s4 :: s5 :: s6 :: s7 :: s8 :: s :: r, W⟩ = K.nx ⟨s0 :: s1 :: s2 :: s3 :: s4 :: s5 :: s6 :: s7 :: s8 :: .own o :: r, W⟩ := rfl
theorem gNN9 (s0 s1 s2 s3 s4 s5 s6 s7 s8 : Slot) (s : Slot) (d : D) (r : List Slot) (W : Wt) (k : Sta → Out) : gN 9 d ⟨s0 :: s1 :: s2 :: s3 :: s4 :: s5 :: s6 :: s7 :: s8 :: s :: r, W⟩ k = k ⟨s0 :: s1 :: s2 :: s3 :: s4 :: s5 :: s6 :: s7 :: s8 :: .val d :: r, W⟩ := rfl
theorem conO9 (s0 s1 s2 s3 s4 s5 s6 s7 s8 : Slot) (o : Own) (r : List Slot) (W : Wt) : con ⟨s0 :: s1 :: s2 :: s3 :: s4 :: s5 :: s6 :: s7 :: s8 :: .own o :: r, W⟩ (.slot 9) = .own o := rfl
theorem putO9 (s0 s1 s2 s3 s4 s5 s6 s7 s8 : Slot) (s : Slot) (o : Own) (r : List Slot) (W : Wt) : putC ⟨s0 :: s1 :: s2 :: s3 :: s4 :: s5 :: s6 :: s7 :: s8 :: s :: r, W⟩ (.slot 9) o = ⟨s0 :: s1 :: s2 :: s3 :: s4 :: s5 :: s6 :: s7 :: s8 :: .own o :: r, W⟩ := rfl
theorem rVarV10 (s0 s1 s2 s3 s4 s5 s6 s7 s8 s9 : Slot) (d : D) (r : List Slot) (W : Wt) (k : D → Sta → Out) (e : RX) : rVar 10 ⟨s0 :: s1 :: s2 :: s3 :: s4 :: s5 :: s6 :: s7 :: s8 :: s9 :: .val d :: r, W⟩ k e = k d ⟨s0 :: s1 :: s2 :: s3 :: s4 :: s5 :: s6 :: s7 :: s8 :: s9 :: .val d :: r, W⟩ := rfl
theorem rVarL10 (s0 s1 s2 s3 s4 s5 s6 s7 s8 s9 : Slot) (xs : List D) (r : List Slot) (W : Wt) (k : D → Sta → Out) (e : RX) : rVar 10 ⟨s0 :: s1 :: s2 :: s3 :: s4 :: s5 :: s6 :: s7 :: s8 :: s9 :: .own (.lst xs) :: r, W⟩ k e = k (.lst xs) ⟨s0 :: s1 :: s2 :: s3 :: s4 :: s5 :: s6 :: s7 :: s8 :: s9 :: .val (.lst xs) :: r, W⟩ := rfl
theorem rVarD10 (s0 s1 s2 s3 s4 s5 s6 s7 s8 s9 : Slot) (ks vs : List D) (r : List Slot) (W : Wt) (k : D → Sta → Out) (e : RX) : rVar 10 ⟨s0 :: s1 :: s2 :: s3 :: s4 :: s5 :: s6 :: s7 :: s8 :: s9 :: .own (.dct ks vs) :: r, W⟩ k e = k (.dct ks vs) ⟨s0 :: s1 :: s2 :: s3 :: s4 :: s5 :: s6 :: s7 :: s8 :: s9 :: .val (.dct ks vs) :: r, W⟩ := rfl
theorem rkVarV10 (s0 s1 s2 s3 s4 s5 s6 s7 s8 s9 : Slot) (d : D) (r : List Slot) (W : Wt) (k : Pk → Sta → Out) (e : RX) : rkVar 10 ⟨s0 :: s1 :: s2 :: s3 :: s4 :: s5 :: s6 :: s7 :: s8 :: s9 :: .val d :: r, W⟩ k e = k (.val d) ⟨s0 :: s1 :: s2 :: s3 :: s4 :: s5 :: s6 :: s7 :: s8 :: s9 :: .val d :: r, W⟩ := rfl
theorem rkVarO10 (s0 s1 s2 s3 s4 s5 s6 s7 s8 s9 : Slot) (o : Own) (r : List Slot) (W : Wt) (k : Pk → Sta → Out) (e : RX) : rkVar 10 ⟨s0 :: s1 :: s2 :: s3 :: s4 :: s5 :: s6 :: s7 :: s8 :: s9 :: .own o :: r, W⟩ k e = k (.slot 10) ⟨s0 :: s1 :: s2 :: s3 :: s4 :: s5 :: s6 :: s7 :: s8 :: s9 :: .own o :: r, W⟩ := rfl
theorem kSN10 (s0 s1 s2 s3 s4 s5 s6 s7 s8 s9 : Slot) (s : Slot) (d : D) (r : List Slot) (W : Wt) (K : Ks) : kS 10 K d ⟨s0 :: s1 :: s2 :: s3 :: s4 :: s5 :: s6 :: s7 :: s8 :: s9 :: s :: r, W⟩ = K.nx ⟨s0 :: s1 :: s2 :: s3 :: s4 :: s5 :: s6 :: s7 :: s8 :: s9 :: .val d :: r, W⟩ := rfl
theorem kSON10 (s0 s1 s2 s3 s4 s5 s6 s7 s8 s9 : Slot) (s : Slot) (o : Own) (r : List Slot) (W : Wt) (K : Ks) : kSO 10 K o ⟨s0 :: s1 :: s2 :: s3 :: s4 :: s5 :: s6 :: s7 :: s8 :: s9 :: s :: r, W⟩ = K.nx ⟨s0 :: s1 :: s2 :: s3 :: s4 :: s5 :: s6 :: s7 :: s8 :: s9 :: .own o :: r, W⟩ := rfl
theorem gNN10 (s0 s1 s2 s3 s4 s5 s6 s7 s8 s9 : Slot) (s : Slot) (d : D) (r : List Slot) (W : Wt) (k : Sta → Out) : gN 10 d ⟨s0 :: s1 :: s2 :: s3 :: s4 :: s5 :: s6 :: s7 :: s8 :: s9 :: s :: r, W⟩ k = k ⟨s0 :: s1 :: s2 :: s3 :: s4 :: s5 :: s6 :: s7 :: s8 :: s9 :: .val d :: r, W⟩ := rfl
theorem conO10 (s0 s1 s2 s3 s4 s5 s6 s7 s8 s9 : Slot) (o : Own) (r : List Slot) (W : Wt) : con ⟨s0 :: s1 :: s2 :: s3 :: s4 :: s5 :: s6 :: s7 :: s8 :: s9 :: .own o :: r, W⟩ (.slot 10) = .own o := rfl
theorem putO10 (s0 s1 s2 s3 s4 s5 s6 s7 s8 s9 : Slot) (s : Slot) (o : Own) (r : List Slot) (W : Wt) : putC ⟨s0 :: s1 :: s2 :: s3 :: s4 :: s5 :: s6 :: s7 :: s8 :: s9 :: s :: r, W⟩ (.slot 10) o = ⟨s0 :: s1 :: s2 :: s3 :: s4 :: s5 :: s6 :: s7 :: s8 :: s9 :: .own o :: r, W⟩ := rfl
theorem rVarV11 (s0 s1 s2 s3 s4 s5 s6 s7 s8 s9 s10 : Slot) (d : D) (r : List Slot) (W : Wt) (k : D → Sta → Out) (e : RX) : rVar 11 ⟨s0 :: s1 :: s2 :: s3 :: s4 :: s5 :: s6 :: s7 :: s8 :: s9 :: s10 :: .val d :: r, W⟩ k e = k d ⟨s0 :: s1 :: s2 :: s3 :: s4 :: s5 :: s6 :: s7 :: s8 :: s9 :: s10 :: .val d :: r, W⟩ := rfl
theorem rVarL11 (s0 s1 s2 s3 s4 s5 s6 s7 s8 s9 s10 : Slot) (xs : List D) (r : List Slot) (W : Wt) (k : D → Sta → Out) (e : RX) : rVar 11 ⟨s0 :: s1 :: s2 :: s3 :: s4 :: s5 :: s6 :: s7 :: s8 :: s9 :: s10 :: .own (.lst xs) :: r, W⟩ k e = k (.lst xs) ⟨s0 :: s1 :: s2 :: s3 :: s4 :: s5 :: s6 :: s7 :: s8 :: s9 :: s10 :: .val (.lst xs) :: r, W⟩ := rfl
theorem rVarD11 (s0 s1 s2 s3 s4 s5 s6 s7 s8 s9 s10 : Slot) (ks vs : List D) (r : List Slot) (W : Wt) (k : D → Sta → Out) (e : RX) : rVar 11 ⟨s0 :: s1 :: s2 :: s3 :: s4 :: s5 :: s6 :: s7 :: s8 :: s9 :: s10 :: .own (.dct ks vs) :: r, W⟩ k e = k (.dct ks vs) ⟨s0 :: s1 :: s2 :: s3 :: s4 :: s5 :: s6 :: s7 :: s8 :: s9 :: s10 :: .val (.dct ks vs) :: r, W⟩ := rfl
theorem rkVarV11 (s0 s1 s2 s3 s4 s5 s6 s7 s8 s9 s10 : Slot) (d : D) (r : List Slot) (W : Wt) (k : Pk → Sta → Out) (e : RX) : rkVar 11 ⟨s0 :: s1 :: s2 :: s3 :: s4 :: s5 :: s6 :: s7 :: s8 :: s9 :: s10 :: .val d :: r, W⟩ k e = k (.val d) ⟨s0 :: s1 :: s2 :: s3 :: s4 :: s5 :: s6 :: s7 :: s8 :: s9 :: s10 :: .val d :: r, W⟩ := rfl
theorem rkVarO11 (s0 s1 s2 s3 s4 s5 s6 s7 s8 s9 s10 : Slot) (o : Own) (r : List Slot) (W : Wt) (k : Pk → Sta → Out) (e : RX) : rkVar 11 ⟨s0 :: s1 :: s2 :: s3 :: s4 :: s5 :: s6 :: s7 :: s8 :: s9 :: s10 :: .own o :: r, W⟩ k e = k (.slot 11) ⟨s0 :: s1 :: s2 :: s3 :: s4 :: s5 :: s6 :: s7 :: s8 :: s9 :: s10 :: .own o :: r, W⟩ := rfl
theorem kSN11 (s0 s1 s2 s3 s4 s5 s6 s7 s8 s9 s10 : Slot) (s : Slot) (d : D) (r : List Slot) (W : Wt) (K : Ks) : kS 11 K d ⟨s0 :: s1 :: s2 :: s3 :: s4 :: s5 :: s6 :: s7 :: s8 :: s9 :: s10 :: s :: r, W⟩ = K.nx ⟨s0 :: s1 :: s2 :: s3 :: s4 :: s5 :: s6 :: s7 :: s8 :: s9 :: s10 :: .val d :: r, W⟩ := rfl
theorem kSON11 (s0 s1 s2 s3 s4 s5 s6 s7 s8 s9 s10 : Slot) (s : Slot) (o : Own) (r : List Slot) (W : Wt) (K : Ks) : kSO 11 K o ⟨s0 :: s1 :: s2 :: s3 :: s4 :: s5 :: s6 :: s7 :: s8 :: s9 :: s10 :: s :: r, W⟩ = K.nx ⟨s0 :: s1 :: s2 :: s3 :: s4 :: s5 :: s6 :: s7 :: s8 :: s9 :: s10 :: .own o :: r, W⟩ := rfl
theorem gNN11 (s0 s1 s2 s3 s4 s5 s6 s7 s8 s9 s10 : Slot) (s : Slot) (d : D) (r : List Slot) (W : Wt) (k : Sta → Out) : gN 11 d ⟨s0 :: s1 :: s2 :: s3 :: s4 :: s5 :: s6 :: s7 :: s8 :: s9 :: s10 :: s :: r, W⟩ k = k ⟨s0 :: s1 :: s2 :: s3 :: s4 :: s5 :: s6 :: s7 :: s8 :: s9 :: s10 :: .val d :: r, W⟩ := rfl
theorem conO11 (s0 s1 s2 s3 s4 s5 s6 s7 s8 s9 s10 : Slot) (o : Own) (r : List Slot) (W : Wt) : con ⟨s0 :: s1 :: s2 :: s3 :: s4 :: s5 :: s6 :: s7 :: s8 :: s9 :: s10 :: .own o :: r, W⟩ (.slot 11) = .own o := rfl
theorem putO11 (s0 s1 s2 s3 s4 s5 s6 s7 s8 s9 s10 : Slot) (s : Slot) (o : Own) (r : List Slot) (W : Wt) : putC ⟨s0 :: s1 :: s2 :: s3 :: s4 :: s5 :: s6 :: s7 :: s8 :: s9 :: s10 :: s :: r, W⟩ (.slot 11) o = ⟨s0 :: s1 :: s2 :: s3 :: s4 :: s5 :: s6 :: s7 :: s8 :: s9 :: s10 :: .own o :: r, W⟩ := rfl
theorem rVarV12 (s0 s1 s2 s3 s4 s5 s6 s7 s8 s9 s10 s11 : Slot) (d : D) (r : List Slot) (W : Wt) (k : D → Sta → Out) (e : RX) : rVar 12 ⟨s0 :: s1 :: s2 :: s3 :: s4 :: s5 :: s6 :: s7 :: s8 :: s9 :: s10 :: s11 :: .val d :: r, W⟩ k e = k d ⟨s0 :: s1 :: s2 :: s3 :: s4 :: s5 :: s6 :: s7 :: s8 :: s9 :: s10 :: s11 :: .val d :: r, W⟩ := rfl
theorem rVarL12 (s0 s1 s2 s3 s4 s5 s6 s7 s8 s9 s10 s11 : Slot) (xs : List D) (r : List Slot) (W : Wt) (k : D → Sta → Out) (e : RX) : rVar 12 ⟨s0 :: s1 :: s2 :: s3 :: s4 :: s5 :: s6 :: s7 :: s8 :: s9 :: s10 :: s11 :: .own (.lst xs) :: r, W⟩ k e = k (.lst xs) ⟨s0 :: s1 :: s2 :: s3 :: s4 :: s5 :: s6 :: s7 :: s8 :: s9 :: s10 :: s11 :: .val (.lst xs) :: r, W⟩ := rfl
theorem rVarD12 (s0 s1 s2 s3 s4 s5 s6 s7 s8 s9 s10 s11 : Slot) (ks vs : List D) (r : List Slot) (W : Wt) (k : D → Sta → Out) (e : RX) : rVar 12 ⟨s0 :: s1 :: s2 :: s3 :: s4 :: s5 :: s6 :: s7 :: s8 :: s9 :: s10 :: s11 :: .own (.dct ks vs) :: r, W⟩ k e = k (.dct ks vs) ⟨s0 :: s1 :: s2 :: s3 :: s4 :: s5 :: s6 :: s7 :: s8 :: s9 :: s10 :: s11 :: .val (.dct ks vs) :: r, W⟩ := rfl
theorem rkVarV12 (s0 s1 s2 s3 s4 s5 s6 s7 s8 s9 s10 s11 : Slot) (d : D) (r : List Slot) (W : Wt) (k : Pk → Sta → Out) (e : RX) : rkVar 12 ⟨s0 :: s1 :: s2 :: s3 :: s4 :: s5 :: s6 :: s7 :: s8 :: s9 :: s10 :: s11 :: .val d :: r, W⟩ k e = k (.val d) ⟨s0 :: s1 :: s2 :: s3 :: s4 :: s5 :: s6 :: s7 :: s8 :: s9 :: s10 :: s11 :: .val d :: r, W⟩ := rfl
theorem rkVarO12 (s0 s1 s2 s3 s4 s5 s6 s7 s8 s9 s10 s11 : Slot) (o : Own) (r : List Slot) (W : Wt) (k : Pk → Sta → Out) (e : RX) : rkVar 12 ⟨s0 :: s1 :: s2 :: s3 :: s4 :: s5 :: s6 :: s7 :: s8 :: s9 :: s10 :: s11 :: .own o :: r, W⟩ k e = k (.slot 12) ⟨s0 :: s1 :: s2 :: s3 :: s4 :: s5 :: s6 :: s7 :: s8 :: s9 :: s10 :: s11 :: .own o :: r, W⟩ := rfl
theorem kSN12 (s0 s1 s2 s3 s4 s5 s6 s7 s8 s9 s10 s11 : Slot) (s : Slot) (d : D) (r : List Slot) (W : Wt) (K : Ks) : kS 12 K d ⟨s0 :: s1 :: s2 :: s3 :: s4 :: s5 :: s6 :: s7 :: s8 :: s9 :: s10 :: s11 :: s :: r, W⟩ = K.nx ⟨s0 :: s1 :: s2 :: s3 :: s4 :: s5 :: s6 :: s7 :: s8 :: s9 :: s10 :: s11 :: .val d :: r, W⟩ := rfl
theorem kSON12 (s0 s1 s2 s3 s4 s5 s6 s7 s8 s9 s10 s11 : Slot) (s : Slot) (o : Own) (r : List Slot) (W : Wt) (K : Ks) : kSO 12 K o ⟨s0 :: s1 :: s2 :: s3 :: s4 :: s5 :: s6 :: s7 :: s8 :: s9 :: s10 :: s11 :: s :: r, W⟩ = K.nx ⟨s0 :: s1 :: s2 :: s3 :: s4 :: s5 :: s6 :: s7 :: s8 :: s9 :: s10 :: s11 :: .own o :: r, W⟩ := rfl
theorem gNN12 (s0 s1 s2 s3 s4 s5 s6 s7 s8 s9 s10 s11 : Slot) (s : Slot) (d : D) (r : List Slot) (W : Wt) (k : Sta → Out) : gN 12 d ⟨s0 :: s1 :: s2 :: s3 :: s4 :: s5 :: s6 :: s7 :: s8 :: s9 :: s10 :: s11 :: s :: r, W⟩ k = k ⟨s0 :: s1 :: s2 :: s3 :: s4 :: s5 :: s6 :: s7 :: s8 :: s9 :: s10 :: s11 :: .val d :: r, W⟩ := rfl
theorem conO12 (s0 s1 s2 s3 s4 s5 s6 s7 s8 s9 s10 s11 : Slot) (o : Own) (r : List Slot) (W : Wt) : con ⟨s0 :: s1 :: s2 :: s3 :: s4 :: s5 :: s6 :: s7 :: s8 :: s9 :: s10 :: s11 :: .own o :: r, W⟩ (.slot 12) = .own o := rfl
theorem putO12 (s0 s1 s2 s3 s4 s5 s6 s7 s8 s9 s10 s11 : Slot) (s : Slot) (o : Own) (r : List Slot) (W : Wt) : putC ⟨s0 :: s1 :: s2 :: s3 :: s4 :: s5 :: s6 :: s7 :: s8 :: s9 :: s10 :: s11 :: s :: r, W⟩ (.slot 12) o = ⟨s0 :: s1 :: s2 :: s3 :: s4 :: s5 :: s6 :: s7 :: s8 :: s9 :: s10 :: s11 :: .own o :: r, W⟩ := rfl
theorem rVarV13 (s0 s1 s2 s3 s4 s5 s6 s7 s8 s9 s10 s11 s12 : Slot) (d : D) (r : List Slot) (W : Wt) (k : D → Sta → Out) (e : RX) : rVar 13 ⟨s0 :: s1 :: s2 :: s3 :: s4 :: s5 :: s6 :: s7 :: s8 :: s9 :: s10 :: s11 :: s12 :: .val d :: r, W⟩ k e = k d ⟨s0 :: s1 :: s2 :: s3 :: s4 :: s5 :: s6 :: s7 :: s8 :: s9 :: s10 :: s11 :: s12 :: .val d :: r, W⟩ := rfl
theorem rVarL13 (s0 s1 s2 s3 s4 s5 s6 s7 s8 s9 s10 s11 s12 : Slot) (xs : List D) (r : List Slot) (W : Wt) (k : D → Sta → Out) (e : RX) : rVar 13 ⟨s0 :: s1 :: s2 :: s3 :: s4 :: s5 :: s6 :: s7 :: s8 :: s9 :: s10 :: s11 :: s12 :: .own (.lst xs) :: r, W⟩ k e = k (.lst xs) ⟨s0 :: s1 :: s2 :: s3 :: s4 :: s5 :: s6 :: s7 :: s8 :: s9 :: s10 :: s11 :: s12 :: .val (.lst xs) :: r, W⟩ := rfl
theorem rVarD13 (s0 s1 s2 s3 s4 s5 s6 s7 s8 s9 s10 s11 s12 : Slot) (ks vs : List D) (r : List Slot) (W : Wt) (k : D → Sta → Out) (e : RX) : rVar 13 ⟨s0 :: s1 :: s2 :: s3 :: s4 :: s5 :: s6 :: s7 :: s8 :: s9 :: s10 :: s11 :: s12 :: .own (.dct ks vs) :: r, W⟩ k e = k (.dct ks vs) ⟨s0 :: s1 :: s2 :: s3 :: s4 :: s5 :: s6 :: s7 :: s8 :: s9 :: s10 :: s11 :: s12 :: .val (.dct ks vs) :: r, W⟩ := rfl
theorem rkVarV13 (s0 s1 s2 s3 s4 s5 s6 s7 s8 s9 s10 s11 s12 : Slot) (d : D) (r : List Slot) (W : Wt) (k : Pk → Sta → Out) (e : RX) : rkVar 13 ⟨s0 :: s1 :: s2 :: s3 :: s4 :: s5 :: s6 :: s7 :: s8 :: s9 :: s10 :: s11 :: s12 :: .val d :: r, W⟩ k e = k (.val d) ⟨s0 :: s1 :: s2 :: s3 :: s4 :: s5 :: s6 :: s7 :: s8 :: s9 :: s10 :: s11 :: s12 :: .val d :: r, W⟩ := rfl
theorem rkVarO13 (s0 s1 s2 s3 s4 s5 s6 s7 s8 s9 s10 s11 s12 : Slot) (o : Own) (r : List Slot) (W : Wt) (k : Pk → Sta → Out) (e : RX) : rkVar 13 ⟨s0 :: s1 :: s2 :: s3 :: s4 :: s5 :: s6 :: s7 :: s8 :: s9 :: s10 :: s11 :: s12 :: .own o :: r, W⟩ k e = k (.slot 13) ⟨s0 :: s1 :: s2 :: s3 :: s4 :: s5 :: s6 :: s7 :: s8 :: s9 :: s10 :: s11 :: s12 :: .own o :: r, W⟩ := rfl
theorem kSN13 (s0 s1 s2 s3 s4 s5 s6 s7 s8 s9 s10 s11 s12 : Slot) (s : Slot) (d : D) (r : List Slot) (W : Wt) (K : Ks) : kS 13 K d ⟨s0 :: s1 :: s2 :: s3 :: s4 :: s5 :: s6 :: s7 :: s8 :: s9 :: s10 :: s11 :: s12 :: s :: r, W⟩ = K.nx ⟨s0 :: s1 :: s2 :: s3 :: s4 :: s5 :: s6 :: s7 :: s8 :: s9 :: s10 :: s11 :: s12 :: .val d :: r, W⟩ := rfl
theorem kSON13 (s0 s1 s2 s3 s4 s5 s6 s7 s8 s9 s10 s11 s12 : Slot) (s : Slot) (o : Own) (r : List Slot) (W : Wt) (K : Ks) : kSO 13 K o ⟨s0 :: s1 :: s2 :: s3 :: s4 :: s5 :: s6 :: s7 :: s8 :: s9 :: s10 :: s11 :: s12 :: s :: r, W⟩ = K.nx ⟨s0 :: s1 :: s2 :: s3 :: s4 :: s5 :: s6 :: s7 :: s8 :: s9 :: s10 :: s11 :: s12 :: .own o :: r, W⟩ := rfl
theorem gNN13 (s0 s1 s2 s3 s4 s5 s6 s7 s8 s9 s10 s11 s12 : Slot) (s : Slot) (d : D) (r : List Slot) (W : Wt) (k : Sta → Out) : gN 13 d ⟨s0 :: s1 :: s2 :: s3 :: s4 :: s5 :: s6 :: s7 :: s8 :: s9 :: s10 :: s11 :: s12 :: s :: r, W⟩ k = k ⟨s0 :: s1 :: s2 :: s3 :: s4 :: s5 :: s6 :: s7 :: s8 :: s9 :: s10 :: s11 :: s12 :: .val d :: r, W⟩ := rfl
theorem conO13 (s0 s1 s2 s3 s4 s5 s6 s7 s8 s9 s10 s11 s12 : Slot) (o : Own) (r : List Slot) (W : Wt) : con ⟨s0 :: s1 :: s2 :: s3 :: s4 :: s5 :: s6 :: s7 :: s8 :: s9 :: s10 :: s11 :: s12 :: .own o :: r, W⟩ (.slot 13) = .own o := rfl
theorem putO13 (s0 s1 s2 s3 s4 s5 s6 s7 s8 s9 s10 s11 s12 : Slot) (s : Slot) (o : Own) (r : List Slot) (W : Wt) : putC ⟨s0 :: s1 :: s2 :: s3 :: s4 :: s5 :: s6 :: s7 :: s8 :: s9 :: s10 :: s11 :: s12 :: s :: r, W⟩ (.slot 13) o = ⟨s0 :: s1 :: s2 :: s3 :: s4 :: s5 :: s6 :: s7 :: s8 :: s9 :: s10 :: s11 :: s12 :: .own o :: r, W⟩ := rfl
theorem rVarV14 (s0 s1 s2 s3 s4 s5 s6 s7 s8 s9 s10 s11 s12 s13 : Slot) (d : D) (r : List Slot) (W : Wt) (k : D → Sta → Out) (e : RX) : rVar 14 ⟨s0 :: s1 :: s2 :: s3 :: s4 :: s5 :: s6 :: s7 :: s8 :: s9 :: s10 :: s11 :: s12 :: s13 :: .val d :: r, W⟩ k e = k d ⟨s0 :: s1 :: s2 :: s3 :: s4 :: s5 :: s6 :: s7 :: s8 :: s9 :: s10 :: s11 :: s12 :: s13 :: .val d :: r, W⟩ := rfl
theorem rVarL14 (s0 s1 s2 s3 s4 s5 s6 s7 s8 s9 s10 s11 s12 s13 : Slot) (xs : List D) (r : List Slot) (W : Wt) (k : D → Sta → Out) (e : RX) : rVar 14 ⟨s0 :: s1 :: s2 :: s3 :: s4 :: s5 :: s6 :: s7 :: s8 :: s9 :: s10 :: s11 :: s12 :: s13 :: .own (.lst xs) :: r, W⟩ k e = k (.lst xs) ⟨s0 :: s1 :: s2 :: s3 :: s4 :: s5 :: s6 :: s7 :: s8 :: s9 :: s10 :: s11 :: s12 :: s13 :: .val (.lst xs) :: r, W⟩ := rfl
theorem rVarD14 (s0 s1 s2 s3 s4 s5 s6 s7 s8 s9 s10 s11 s12 s13 : Slot) (ks vs : List D) (r : List Slot) (W : Wt) (k : D → Sta → Out) (e : RX) : rVar 14 ⟨s0 :: s1 :: s2 :: s3 :: s4 :: s5 :: s6 :: s7 :: s8 :: s9 :: s10 :: s11 :: s12 :: s13 :: .own (.dct ks vs) :: r, W⟩ k e = k (.dct ks vs) ⟨s0 :: s1 :: s2 :: s3 :: s4 :: s5 :: s6 :: s7 :: s8 :: s9 :: s10 :: s11 :: s12 :: s13 :: .val (.dct ks vs) :: r, W⟩ := rfl
theorem rkVarV14 (s0 s1 s2 s3 s4 s5 s6 s7 s8 s9 s10 s11 s12 s13 : Slot) (d : D) (r : List Slot) (W : Wt) (k : Pk → Sta → Out) (e : RX) : rkVar 14 ⟨s0 :: s1 :: s2 :: s3 :: s4 :: s5 :: s6 :: s7 :: s8 :: s9 :: s10 :: s11 :: s12 :: s13 :: .val d :: r, W⟩ k e = k (.val d) ⟨s0 :: s1 :: s2 :: s3 :: s4 :: s5 :: s6 :: s7 :: s8 :: s9 :: s10 :: s11 :: s12 :: s13 :: .val d :: r, W⟩ := rfl
theorem rkVarO14 (s0 s1 s2 s3 s4 s5 s6 s7 s8 s9 s10 s11 s12 s13 : Slot) (o : Own) (r : List Slot) (W : Wt) (k : Pk → Sta → Out) (e : RX) : rkVar 14 ⟨s0 :: s1 :: s2 :: s3 :: s4 :: s5 :: s6 :: s7 :: s8 :: s9 :: s10 :: s11 :: s12 :: s13 :: .own o :: r, W⟩ k e = k (.slot 14) ⟨s0 :: s1 :: s2 :: s3 :: s4 :: s5 :: s6 :: s7 :: s8 :: s9 :: s10 :: s11 :: s12 :: s13 :: .own o :: r, W⟩ := rfl
theorem kSN14 (s0 s1 s2 s3 s4 s5 s6 s7 s8 s9 s10 s11 s12 s13 : Slot) (s : Slot) (d : D) (r : List Slot) (W : Wt) (K : Ks) : kS 14 K d ⟨s0 :: s1 :: s2 :: s3 :: s4 :: s5 :: s6 :: s7 :: s8 :: s9 :: s10 :: s11 :: s12 :: s13 :: s :: r, W⟩ = K.nx ⟨s0 :: s1 :: s2 :: s3 :: s4 :: s5 :: s6 :: s7 :: s8 :: s9 :: s10 :: s11 :: s12 :: s13 :: .val d :: r, W⟩ := rfl
theorem kSON14 (s0 s1 s2 s3 s4 s5 s6 s7 s8 s9 s10 s11 s12 s13 : Slot) (s : Slot) (o : Own) (r : List Slot) (W : Wt) (K : Ks) : kSO 14 K o ⟨s0 :: s1 :: s2 :: s3 :: s4 :: s5 :: s6 :: s7 :: s8 :: s9 :: s10 :: s11 :: s12 :: s13 :: s :: r, W⟩ = K.nx ⟨s0 :: s1 :: s2 :: s3 :: s4 :: s5 :: s6 :: s7 :: s8 :: s9 :: s10 :: s11 :: s12 :: s13 :: .own o :: r, W⟩ := rfl
theorem gNN14 (s0 s1 s2 s3 s4 s5 s6 s7 s8 s9 s10 s11 s12 s13 : Slot) (s : Slot) (d : D) (r : List Slot) (W : Wt) (k : Sta → Out) : gN 14 d ⟨s0 :: s1 :: s2 :: s3 :: s4 :: s5 :: s6 :: s7 :: s8 :: s9 :: s10 :: s11 :: s12 :: s13 :: s :: r, W⟩ k = k ⟨s0 :: s1 :: s2 :: s3 :: s4 :: s5 :: s6 :: s7 :: s8 :: s9 :: s10 :: s11 :: s12 :: s13 :: .val d :: r, W⟩ := rfl
theorem conO14 (s0 s1 s2 s3 s4 s5 s6 s7 s8 s9 s10 s11 s12 s13 : Slot) (o : Own) (r : List Slot) (W : Wt) : con ⟨s0 :: s1 :: s2 :: s3 :: s4 :: s5 :: s6 :: s7 :: s8 :: s9 :: s10 :: s11 :: s12 :: s13 :: .own o :: r, W⟩ (.slot 14) = .own o := rfl
theorem putO14 (s0 s1 s2 s3 s4 s5 s6 s7 s8 s9 s10 s11 s12 s13 : Slot) (s : Slot) (o : Own) (r : List Slot) (W : Wt) : putC ⟨s0 :: s1 :: s2 :: s3 :: s4 :: s5 :: s6 :: s7 :: s8 :: s9 :: s10 :: s11 :: s12 :: s13 :: s :: r, W⟩ (.slot 14) o = ⟨s0 :: s1 :: s2 :: s3 :: s4 :: s5 :: s6 :: s7 :: s8 :: s9 :: s10 :: s11 :: s12 :: s13 :: .own o :: r, W⟩ := rfl
theorem rVarV15 (s0 s1 s2 s3 s4 s5 s6 s7 s8 s9 s10 s11 s12 s13 s14 : Slot) (d : D) (r : List Slot) (W : Wt) (k : D → Sta → Out) (e : RX) : rVar 15 ⟨s0 :: s1 :: s2 :: s3 :: s4 :: s5 :: s6 :: s7 :: s8 :: s9 :: s10 :: s11 :: s12 :: s13 :: s14 :: .val d :: r, W⟩ k e = k d ⟨s0 :: s1 :: s2 :: s3 :: s4 :: s5 :: s6 :: s7 :: s8 :: s9 :: s10 :: s11 :: s12 :: s13 :: s14 :: .val d :: r, W⟩ := rfl
theorem rVarL15 (s0 s1 s2 s3 s4 s5 s6 s7 s8 s9 s10 s11 s12 s13 s14 : Slot) (xs : List D) (r : List Slot) (W : Wt) (k : D → Sta → Out) (e : RX) : rVar 15 ⟨s0 :: s1 :: s2 :: s3 :: s4 :: s5 :: s6 :: s7 :: s8 :: s9 :: s10 :: s11 :: s12 :: s13 :: s14 :: .own (.lst xs) :: r, W⟩ k e = k (.lst xs) ⟨s0 :: s1 :: s2 :: s3 :: s4 :: s5 :: s6 :: s7 :: s8 :: s9 :: s10 :: s11 :: s12 :: s13 :: s14 :: .val (.lst xs) :: r, W⟩ := rfl
theorem rVarD15 (s0 s1 s2 s3 s4 s5 s6 s7 s8 s9 s10 s11 s12 s13 s14 : Slot) (ks vs : List D) (r : List Slot) (W : Wt) (k : D → Sta → Out) (e : RX) : rVar 15 ⟨s0 :: s1 :: s2 :: s3 :: s4 :: s5 :: s6 :: s7 :: s8 :: s9 :: s10 :: s11 :: s12 :: s13 :: s14 :: .own (.dct ks vs) :: r, W⟩ k e = k (.dct ks vs) ⟨s0 :: s1 :: s2 :: s3 :: s4 :: s5 :: s6 :: s7 :: s8 :: s9 :: s10 :: s11 :: s12 :: s13 :: s14 :: .val (.dct ks vs) :: r, W⟩ := rfl
theorem rkVarV15 (s0 s1 s2 s3 s4 s5 s6 s7 s8 s9 s10 s11 s12 s13 s14 : Slot) (d : D) (r : List Slot) (W : Wt) (k : Pk → Sta → Out) (e : RX) : rkVar 15 ⟨s0 :: s1 :: s2 :: s3 :: s4 :: s5 :: s6 :: s7 :: s8 :: s9 :: s10 :: s11 :: s12 :: s13 :: s14 :: .val d :: r, W⟩ k e = k (.val d) ⟨s0 :: s1 :: s2 :: s3 :: s4 :: s5 :: s6 :: s7 :: s8 :: s9 :: s10 :: s11 :: s12 :: s13 :: s14 :: .val d :: r, W⟩ := rfl
theorem rkVarO15 (s0 s1 s2 s3 s4 s5 s6 s7 s8 s9 s10 s11 s12 s13 s14 : Slot) (o : Own) (r : List Slot) (W : Wt) (k : Pk → Sta → Out) (e : RX) : rkVar 15 ⟨s0 :: s1 :: s2 :: s3 :: s4 :: s5 :: s6 :: s7 :: s8 :: s9 :: s10 :: s11 :: s12 :: s13 :: s14 :: .own o :: r, W⟩ k e = k (.slot 15) ⟨s0 :: s1 :: s2 :: s3 :: s4 :: s5 :: s6 :: s7 :: s8 :: s9 :: s10 :: s11 :: s12 :: s13 :: s14 :: .own o :: r, W⟩ := rfl
theorem kSN15 (s0 s1 s2 s3 s4 s5 s6 s7 s8 s9 s10 s11 s12 s13 s14 : Slot) (s : Slot) (d : D) (r : List Slot) (W : Wt) (K : Ks) : kS 15 K d ⟨s0 :: s1 :: s2 :: s3 :: s4 :: s5 :: s6 :: s7 :: s8 :: s9 :: s10 :: s11 :: s12 :: s13 :: s14 :: s :: r, W⟩ = K.nx ⟨s0 :: s1 :: s2 :: s3 :: s4 :: s5 :: s6 :: s7 :: s8 :: s9 :: s10 :: s11 :: s12 :: s13 :: s14 :: .val d :: r, W⟩ := rfl
theorem kSON15 (s0 s1 s2 s3 s4 s5 s6 s7 s8 s9 s10 s11 s12 s13 s14 : Slot) (s : Slot) (o : Own) (r : List Slot) (W : Wt) (K : Ks) : kSO 15 K o ⟨s0 :: s1 :: s2 :: s3 :: s4 :: s5 :: s6 :: s7 :: s8 :: s9 :: s10 :: s11 :: s12 :: s13 :: s14 :: s :: r, W⟩ = K.nx ⟨s0 :: s1 :: s2 :: s3 :: s4 :: s5 :: s6 :: s7 :: s8 :: s9 :: s10 :: s11 :: s12 :: s13 :: s14 :: .own o :: r, W⟩ := rfl
theorem gNN15 (s0 s1 s2 s3 s4 s5 s6 s7 s8 s9 s10 s11 s12 s13 s14 : Slot) (s : Slot) (d : D) (r : List Slot) (W : Wt) (k : Sta → Out) : gN 15 d ⟨s0 :: s1 :: s2 :: s3 :: s4 :: s5 :: s6 :: s7 :: s8 :: s9 :: s10 :: s11 :: s12 :: s13 :: s14 :: s :: r, W⟩ k = k ⟨s0 :: s1 :: s2 :: s3 :: s4 :: s5 :: s6 :: s7 :: s8 :: s9 :: s10 :: s11 :: s12 :: s13 :: s14 :: .val d :: r, W⟩ := rfl
theorem conO15 (s0 s1 s2 s3 s4 s5 s6 s7 s8 s9 s10 s11 s12 s13 s14 : Slot) (o : Own) (r : List Slot) (W : Wt) : con ⟨s0 :: s1 :: s2 :: s3 :: s4 :: s5 :: s6 :: s7 :: s8 :: s9 :: s10 :: s11 :: s12 :: s13 :: s14 :: .own o :: r, W⟩ (.slot 15) = .own o := rfl
theorem putO15 (s0 s1 s2 s3 s4 s5 s6 s7 s8 s9 s10 s11 s12 s13 s14 : Slot) (s : Slot) (o : Own) (r : List Slot) (W : Wt) : putC ⟨s0 :: s1 :: s2 :: s3 :: s4 :: s5 :: s6 :: s7 :: s8 :: s9 :: s10 :: s11 :: s12 :: s13 :: s14 :: s :: r, W⟩ (.slot 15) o = ⟨s0 :: s1 :: s2 :: s3 :: s4 :: s5 :: s6 :: s7 :: s8 :: s9 :: s10 :: s11 :: s12 :: s13 :: s14 :: .own o :: r, W⟩ := rfl
theorem rVarV16 (s0 s1 s2 s3 s4 s5 s6 s7 s8 s9 s10 s11 s12 s13 s14 s15 : Slot) (d : D) (r : List Slot) (W : Wt) (k : D → Sta → Out) (e : RX) : rVar 16 ⟨s0 :: s1 :: s2 :: s3 :: s4 :: s5 :: s6 :: s7 :: s8 :: s9 :: s10 :: s11 :: s12 :: s13 :: s14 :: s15 :: .val d :: r, W⟩ k e = k d ⟨s0 :: s1 :: s2 :: s3 :: s4 :: s5 :: s6 :: s7 :: s8 :: s9 :: s10 :: s11 :: s12 :: s13 :: s14 :: s15 :: .val d :: r, W⟩ := rfl
theorem rVarL16 (s0 s1 s2 s3 s4 s5 s6 s7 s8 s9 s10 s11 s12 s13 s14 s15 : Slot) (xs : List D) (r : List Slot) (W : Wt) (k : D → Sta → Out) (e : RX) : rVar 16 ⟨s0 :: s1 :: s2 :: s3 :: s4 :: s5 :: s6 :: s7 :: s8 :: s9 :: s10 :: s11 :: s12 :: s13 :: s14 :: s15 :: .own (.lst xs) :: r, W⟩ k e = k (.lst xs) ⟨s0 :: s1 :: s2 :: s3 :: s4 :: s5 :: s6 :: s7 :: s8 :: s9 :: s10 :: s11 :: s12 :: s13 :: s14 :: s15 :: .val (.lst xs) :: r, W⟩ := rfl
theorem rVarD16 (s0 s1 s2 s3 s4 s5 s6 s7 s8 s9 s10 s11 s12 s13 s14 s15 : Slot) (ks vs : List D) (r : List Slot) (W : Wt) (k : D → Sta → Out) (e : RX) : rVar 16 ⟨s0 :: s1 :: s2 :: s3 :: s4 :: s5 :: s6 :: s7 :: s8 :: s9 :: s10 :: s11 :: s12 :: s13 :: s14 :: s15 :: .own (.dct ks vs) :: r, W⟩ k e = k (.dct ks vs) ⟨s0 :: s1 :: s2 :: s3 :: s4 :: s5 :: s6 :: s7 :: s8 :: s9 :: s10 :: s11 :: s12 :: s13 :: s14 :: s15 :: .val (.dct ks vs) :: r, W⟩ := rfl
theorem rkVarV16 (s0 s1 s2 s3 s4 s5 s6 s7 s8 s9 s10 s11 s12 s13 s14 s15 : Slot) (d : D) (r : List Slot) (W : Wt) (k : Pk → Sta → Out) (e : RX) : rkVar 16 ⟨s0 :: s1 :: s2 :: s3 :: s4 :: s5 :: s6 :: s7 :: s8 :: s9 :: s10 :: s11 :: s12 :: s13 :: s14 :: s15 :: .val d :: r, W⟩ k e = k (.val d) ⟨s0 :: s1 :: s2 :: s3 :: s4 :: s5 :: s6 :: s7 :: s8 :: s9 :: s10 :: s11 :: s12 :: s13 :: s14 :: s15 :: .val d :: r, W⟩ := rfl
theorem rkVarO16 (s0 s1 s2 s3 s4 s5 s6 s7 s8 s9 s10 s11 s12 s13 s14 s15 : Slot) (o : Own) (r : List Slot) (W : Wt) (k : Pk → Sta → Out) (e : RX) : rkVar 16 ⟨s0 :: s1 :: s2 :: s3 :: s4 :: s5 :: s6 :: s7 :: s8 :: s9 :: s10 :: s11 :: s12 :: s13 :: s14 :: s15 :: .own o :: r, W⟩ k e = k (.slot 16) ⟨s0 :: s1 :: s2 :: s3 :: s4 :: s5 :: s6 :: s7 :: s8 :: s9 :: s10 :: s11 :: s12 :: s13 :: s14 :: s15 :: .own o :: r, W⟩ := rfl
theorem kSN16 (s0 s1 s2 s3 s4 s5 s6 s7 s8 s9 s10 s11 s12 s13 s14 s15 : Slot) (s : Slot) (d : D) (r : List Slot) (W : Wt) (K : Ks) : kS 16 K d ⟨s0 :: s1 :: s2 :: s3 :: s4 :: s5 :: s6 :: s7 :: s8 :: s9 :: s10 :: s11 :: s12 :: s13 :: s14 :: s15 :: s :: r, W⟩ = K.nx ⟨s0 :: s1 :: s2 :: s3 :: s4 :: s5 :: s6 :: s7 :: s8 :: s9 :: s10 :: s11 :: s12 :: s13 :: s14 :: s15 :: .val d :: r, W⟩ := rfl
theorem kSON16 (s0 s1 s2 s3 s4 s5 s6 s7 s8 s9 s10 s11 s12 s13 s14 s15 : Slot) (s : Slot) (o : Own) (r : List Slot) (W : Wt) (K : Ks) : kSO 16 K o ⟨s0 :: s1 :: s2 :: s3 :: s4 :: s5 :: s6 :: s7 :: s8 :: s9 :: s10 :: s11 :: s12 :: s13 :: s14 :: s15 :: s :: r, W⟩ = K.nx ⟨s0 :: s1 :: s2 :: s3 :: s4 :: s5 :: s6 :: s7 :: s8 :: s9 :: s10 :: s11 :: s12 :: s13 :: s14 :: s15 :: .own o :: r, W⟩ := rfl
theorem gNN16 (s0 s1 s2 s3 s4 s5 s6 s7 s8 s9 s10 s11 s12 s13 s14 s15 : Slot) (s : Slot) (d : D) (r : List Slot) (W : Wt) (k : Sta → Out) : gN 16 d ⟨s0 :: s1 :: s2 :: s3 :: s4 :: s5 :: s6 :: s7 :: s8 :: s9 :: s10 :: s11 :: s12 :: s13 :: s14 :: s15 :: s :: r, W⟩ k = k ⟨s0 :: s1 :: s2 :: s3 :: s4 :: s5 :: s6 :: s7 :: s8 :: s9 :: s10 :: s11 :: s12 :: s13 :: s14 :: s15 :: .val d :: r, W⟩ := rfl
theorem conO16 (s0 s1 s2 s3 s4 s5 s6 s7 s8 s9 s10 s11 s12 s13 s14 s15 : Slot) (o : Own) (r : List Slot) (W : Wt) : con ⟨s0 :: s1 :: s2 :: s3 :: s4 :: s5 :: s6 :: s7 :: s8 :: s9 :: s10 :: s11 :: s12 :: s13 :: s14 :: s15 :: .own o :: r, W⟩ (.slot 16) = .own o := rfl
theorem putO16 (s0 s1 s2 s3 s4 s5 s6 s7 s8 s9 s10 s11 s12 s13 s14 s15 : Slot) (s : Slot) (o : Own) (r : List Slot) (W : Wt) : putC ⟨s0 :: s1 :: s2 :: s3 :: s4 :: s5 :: s6 :: s7 :: s8 :: s9 :: s10 :: s11 :: s12 :: s13 :: s14 :: s15 :: s :: r, W⟩ (.slot 16) o = ⟨s0 :: s1 :: s2 :: s3 :: s4 :: s5 :: s6 :: s7 :: s8 :: s9 :: s10 :: s11 :: s12 :: s13 :: s14 :: s15 :: .own o :: r, W⟩ := rfl
theorem rVarV17 (s0 s1 s2 s3 s4 s5 s6 s7 s8 s9 s10 s11 s12 s13 s14 s15 s16 : Slot) (d : D) (r : List Slot) (W : Wt) (k : D → Sta → Out) (e : RX) : rVar 17 ⟨s0 :: s1 :: s2 :: s3 :: s4 :: s5 :: s6 :: s7 :: s8 :: s9 :: s10 :: s11 :: s12 :: s13 :: s14 :: s15 :: s16 :: .val d :: r, W⟩ k e = k d ⟨s0 :: s1 :: s2 :: s3 :: s4 :: s5 :: s6 :: s7 :: s8 :: s9 :: s10 :: s11 :: s12 :: s13 :: s14 :: s15 :: s16 :: .val d :: r, W⟩ := rfl
theorem rVarL17 (s0 s1 s2 s3 s4 s5 s6 s7 s8 s9 s10 s11 s12 s13 s14 s15 s16 : Slot) (xs : List D) (r : List Slot) (W : Wt) (k : D → Sta → Out) (e : RX) : rVar 17 ⟨s0 :: s1 :: s2 :: s3 :: s4 :: s5 :: s6 :: s7 :: s8 :: s9 :: s10 :: s11 :: s12 :: s13 :: s14 :: s15 :: s16 :: .own (.lst xs) :: r, W⟩ k e = k (.lst xs) ⟨s0 :: s1 :: s2 :: s3 :: s4 :: s5 :: s6 :: s7 :: s8 :: s9 :: s10 :: s11 :: s12 :: s13 :: s14 :: s15 :: s16 :: .val (.lst xs) :: r, W⟩ := rfl
theorem rVarD17 (s0 s1 s2 s3 s4 s5 s6 s7 s8 s9 s10 s11 s12 s13 s14 s15 s16 : Slot) (ks vs : List D) (r : List Slot) (W : Wt) (k : D → Sta → Out) (e : RX) : rVar 17 ⟨s0 :: s1 :: s2 :: s3 :: s4 :: s5 :: s6 :: s7 :: s8 :: s9 :: s10 :: s11 :: s12 :: s13 :: s14 :: s15 :: s16 :: .own (.dct ks vs) :: r, W⟩ k e = k (.dct ks vs) ⟨s0 :: s1 :: s2 :: s3 :: s4 :: s5 :: s6 :: s7 :: s8 :: s9 :: s10 :: s11 :: s12 :: s13 :: s14 :: s15 :: s16 :: .val (.dct ks vs) :: r, W⟩ := rfl
theorem rkVarV17 (s0 s1 s2 s3 s4 s5 s6 s7 s8 s9 s10 s11 s12 s13 s14 s15 s16 : Slot) (d : D) (r : List Slot) (W : Wt) (k : Pk → Sta → Out) (e : RX) : rkVar 17 ⟨s0 :: s1 :: s2 :: s3 :: s4 :: s5 :: s6 :: s7 :: s8 :: s9 :: s10 :: s11 :: s12 :: s13 :: s14 :: s15 :: s16 :: .val d :: r, W⟩ k e = k (.val d) ⟨s0 :: s1 :: s2 :: s3 :: s4 :: s5 :: s6 :: s7 :: s8 :: s9 :: s10 :: s11 :: s12 :: s13 :: s14 :: s15 :: s16 :: .val d :: r, W⟩ := rfl
theorem rkVarO17 (s0 s1 s2 s3 s4 s5 s6 s7 s8 s9 s10 s11 s12 s13 s14 s15 s16 : Slot) (o : Own) (r : List Slot) (W : Wt) (k : Pk → Sta → Out) (e : RX) : rkVar 17 ⟨s0 :: s1 :: s2 :: s3 :: s4 :: s5 :: s6 :: s7 :: s8 :: s9 :: s10 :: s11 :: s12 :: s13 :: s14 :: s15 :: s16 :: .own o :: r, W⟩ k e = k (.slot 17) ⟨s0 :: s1 :: s2 :: s3 :: s4 :: s5 :: s6 :: s7 :: s8 :: s9 :: s10 :: s11 :: s12 :: s13 :: s14 :: s15 :: s16 :: .own o :: r, W⟩ := rfl
theorem kSN17 (s0 s1 s2 s3 s4 s5 s6 s7 s8 s9 s10 s11 s12 s13 s14 s15 s16 : Slot) (s : Slot) (d : D) (r : List Slot) (W : Wt) (K : Ks) : kS 17 K d ⟨s0 :: s1 :: s2 :: s3 :: s4 :: s5 :: s6 :: s7 :: s8 :: s9 :: s10 :: s11 :: s12 :: s13 :: s14 :: s15 :: s16 :: s :: r, W⟩ = K.nx ⟨s0 :: s1 :: s2 :: s3 :: s4 :: s5 :: s6 :: s7 :: s8 :: s9 :: s10 :: s11 :: s12 :: s13 :: s14 :: s15 :: s16 :: .val d :: r, W⟩ := rfl
theorem kSON17 (s0 s1 s2 s3 s4 s5 s6 s7 s8 s9 s10 s11 s12 s13 s14 s15 s16 : Slot) (s : Slot) (o : Own) (r : List Slot) (W : Wt) (K : Ks) : kSO 17 K o ⟨s0 :: s1 :: s2 :: s3 :: s4 :: s5 :: s6 :: s7 :: s8 :: s9 :: s10 :: s11 :: s12 :: s13 :: s14 :: s15 :: s16 :: s :: r, W⟩ = K.nx ⟨s0 :: s1 :: s2 :: s3 :: s4 :: s5 :: s6 :: s7 :: s8 :: s9 :: s10 :: s11 :: s12 :: s13 :: s14 :: s15 :: s16 :: .own o :: r, W⟩ := rfl
theorem gNN17 (s0 s1 s2 s3 s4 s5 s6 s7 s8 s9 s10 s11 s12 s13 s14 s15 s16 : Slot) (s : Slot) (d : D) (r : List Slot) (W : Wt) (k : Sta → Out) : gN 17 d ⟨s0 :: s1 :: s2 :: s3 :: s4 :: s5 :: s6 :: s7 :: s8 :: s9 :: s10 :: s11 :: s12 :: s13 :: s14 :: s15 :: s16 :: s :: r, W⟩ k = k ⟨s0 :: s1 :: s2 :: s3 :: s4 :: s5 :: s6 :: s7 :: s8 :: s9 :: s10 :: s11 :: s12 :: s13 :: s14 :: s15 :: s16 :: .val d :: r, W⟩ := rfl
theorem conO17 (s0 s1 s2 s3 s4 s5 s6 s7 s8 s9 s10 s11 s12 s13 s14 s15 s16 : Slot) (o : Own) (r : List Slot) (W : Wt) : con ⟨s0 :: s1 :: s2 :: s3 :: s4 :: s5 :: s6 :: s7 :: s8 :: s9 :: s10 :: s11 :: s12 :: s13 :: s14 :: s15 :: s16 :: .own o :: r, W⟩ (.slot 17) = .own o := rfl
theorem putO17 (s0 s1 s2 s3 s4 s5 s6 s7 s8 s9 s10 s11 s12 s13 s14 s15 s16 : Slot) (s : Slot) (o : Own) (r : List Slot) (W : Wt) : putC ⟨s0 :: s1 :: s2 :: s3 :: s4 :: s5 :: s6 :: s7 :: s8 :: s9 :: s10 :: s11 :: s12 :: s13 :: s14 :: s15 :: s16 :: s :: r, W⟩ (.slot 17) o = ⟨s0 :: s1 :: s2 :: s3 :: s4 :: s5 :: s6 :: s7 :: s8 :: s9 :: s10 :: s11 :: s12 :: s13 :: s14 :: s15 :: s16 :: .own o :: r, W⟩ := rfl
theorem rVarV18 (s0 s1 s2 s3 s4 s5 s6 s7 s8 s9 s10 s11 s12 s13 s14 s15 s16 s17 : Slot) (d : D) (r : List Slot) (W : Wt) (k : D → Sta → Out) (e : RX) : rVar 18 ⟨s0 :: s1 :: s2 :: s3 :: s4 :: s5 :: s6 :: s7 :: s8 :: s9 :: s10 :: s11 :: s12 :: s13 :: s14 :: s15 :: s16 :: s17 :: .val d :: r, W⟩ k e = k d ⟨s0 :: s1 :: s2 :: s3 :: s4 :: s5 :: s6 :: s7 :: s8 :: s9 :: s10 :: s11 :: s12 :: s13 :: s14 :: s15 :: s16 :: s17 :: .val d :: r, W⟩ := rfl
theorem rVarL18 (s0 s1 s2 s3 s4 s5 s6 s7 s8 s9 s10 s11 s12 s13 s14 s15 s16 s17 : Slot) (xs : List D) (r : List Slot) (W : Wt) (k : D → Sta → Out) (e : RX) : rVar 18 ⟨s0 :: s1 :: s2 :: s3 :: s4 :: s5 :: s6 :: s7 :: s8 :: s9 :: s10 :: s11 :: s12 :: s13 :: s14 :: s15 :: s16 :: s17 :: .own (.lst xs) :: r, W⟩ k e = k (.lst xs) ⟨s0 :: s1 :: s2 :: s3 :: s4 :: s5 :: s6 :: s7 :: s8 :: s9 :: s10 :: s11 :: s12 :: s13 :: s14 :: s15 :: s16 :: s17 :: .val (.lst xs) :: r, W⟩ := rfl
theorem rVarD18 (s0 s1 s2 s3 s4 s5 s6 s7 s8 s9 s10 s11 s12 s13 s14 s15 s16 s17 : Slot) (ks vs : List D) (r : List Slot) (W : Wt) (k : D → Sta → Out) (e : RX) : rVar 18 ⟨s0 :: s1 :: s2 :: s3 :: s4 :: s5 :: s6 :: s7 :: s8 :: s9 :: s10 :: s11 :: s12 :: s13 :: s14 :: s15 :: s16 :: s17 :: .own (.dct ks vs) :: r, W⟩ k e = k (.dct ks vs) ⟨s0 :: s1 :: s2 :: s3 :: s4 :: s5 :: s6 :: s7 :: s8 :: s9 :: s10 :: s11 :: s12 :: s13 :: s14 :: s15 :: s16 :: s17 :: .val (.dct ks vs) :: r, W⟩ := rfl
theorem rkVarV18 (s0 s1 s2 s3 s4 s5 s6 s7 s8 s9 s10 s11 s12 s13 s14 s15 s16 s17 : Slot) (d : D) (r : List Slot) (W : Wt) (k : Pk → Sta → Out) (e : RX) : rkVar 18 ⟨s0 :: s1 :: s2 :: s3 :: s4 :: s5 :: s6 :: s7 :: s8 :: s9 :: s10 :: s11 :: s12 :: s13 :: s14 :: s15 :: s16 :: s17 :: .val d :: r, W⟩ k e = k (.val d) ⟨s0 :: s1 :: s2 :: s3 :: s4 :: s5 :: s6 :: s7 :: s8 :: s9 :: s10 :: s11 :: s12 :: s13 :: s14 :: s15 :: s16 :: s17 :: .val d :: r, W⟩ := rfl
theorem rkVarO18 (s0 s1 s2 s3 s4 s5 s6 s7 s8 s9 s10 s11 s12 s13 s14 s15 s16 s17 : Slot) (o : Own) (r : List Slot) (W : Wt) (k : Pk → Sta → Out) (e : RX) : rkVar 18 ⟨s0 :: s1 :: s2 :: s3 :: s4 :: s5 :: s6 :: s7 :: s8 :: s9 :: s10 :: s11 :: s12 :: s13 :: s14 :: s15 :: s16 :: s17 :: .own o :: r, W⟩ k e = k (.slot 18) ⟨s0 :: s1 :: s2 :: s3 :: s4 :: s5 :: s6 :: s7 :: s8 :: s9 :: s10 :: s11 :: s12 :: s13 :: s14 :: s15 :: s16 :: s17 :: .own o :: r, W⟩ := rfl
theorem kSN18 (s0 s1 s2 s3 s4 s5 s6 s7 s8 s9 s10 s11 s12 s13 s14 s15 s16 s17 : Slot) (s : Slot) (d : D) (r : List Slot) (W : Wt) (K : Ks) : kS 18 K d ⟨s0 :: s1 :: s2 :: s3 :: s4 :: s5 :: s6 :: s7 :: s8 :: s9 :: s10 :: s11 :: s12 :: s13 :: s14 :: s15 :: s16 :: s17 :: s :: r, W⟩ = K.nx ⟨s0 :: s1 :: s2 :: s3 :: s4 :: s5 :: s6 :: s7 :: s8 :: s9 :: s10 :: s11 :: s12 :: s13 :: s14 :: s15 :: s16 :: s17 :: .val d :: r, W⟩ := rfl
theorem kSON18 (s0 s1 s2 s3 s4 s5 s6 s7 s8 s9 s10 s11 s12 s13 s14 s15 s16 s17 : Slot) (s : Slot) (o : Own) (r : List Slot) (W : Wt) (K : Ks) : kSO 18 K o ⟨s0 :: s1 :: s2 :: s3 :: s4 :: s5 :: s6 :: s7 :: s8 :: s9 :: s10 :: s11 :: s12 :: s13 :: s14 :: s15 :: s16 :: s17 :: s :: r, W⟩ = K.nx ⟨s0 :: s1 :: s2 :: s3 :: s4 :: s5 :: s6 :: s7 :: s8 :: s9 :: s10 :: s11 :: s12 :: s13 :: s14 :: s15 :: s16 :: s17 :: .own o :: r, W⟩ := rfl
theorem gNN18 (s0 s1 s2 s3 s4 s5 s6 s7 s8 s9 s10 s11 s12 s13 s14 s15 s16 s17 : Slot) (s : Slot) (d : D) (r : List Slot) (W : Wt) (k : Sta → Out) : gN 18 d ⟨s0 :: s1 :: s2 :: s3 :: s4 :: s5 :: s6 :: s7 :: s8 :: s9 :: s10 :: s11 :: s12 :: s13 :: s14 :: s15 :: s16 :: s17 :: s :: r, W⟩ k = k ⟨s0 :: s1 :: s2 :: s3 :: s4 :: s5 :: s6 :: s7 :: s8 :: s9 :: s10 :: s11 :: s12 :: s13 :: s14 :: s15 :: s16 :: s17 :: .val d :: r, W⟩ := rfl
theorem conO18 (s0 s1 s2 s3 s4 s5 s6 s7 s8 s9 s10 s11 s12 s13 s14 s15 s16 s17 : Slot) (o : Own) (r : List Slot) (W : Wt) : con ⟨s0 :: s1 :: s2 :: s3 :: s4 :: s5 :: s6 :: s7 :: s8 :: s9 :: s10 :: s11 :: s12 :: s13 :: s14 :: s15 :: s16 :: s17 :: .own o :: r, W⟩ (.slot 18) = .own o := rfl
theorem putO18 (s0 s1 s2 s3 s4 s5 s6 s7 s8 s9 s10 s11 s12 s13 s14 s15 s16 s17 : Slot) (s : Slot) (o : Own) (r : List Slot) (W : Wt) : putC ⟨s0 :: s1 :: s2 :: s3 :: s4 :: s5 :: s6 :: s7 :: s8 :: s9 :: s10 :: s11 :: s12 :: s13 :: s14 :: s15 :: s16 :: s17 :: s :: r, W⟩ (.slot 18) o = ⟨s0 :: s1 :: s2 :: s3 :: s4 :: s5 :: s6 :: s7 :: s8 :: s9 :: s10 :: s11 :: s12 :: s13 :: s14 :: s15 :: s16 :: s17 :: .own o :: r, W⟩ := rfl
theorem rVarV19 (s0 s1 s2 s3 s4 s5 s6 s7 s8 s9 s10 s11 s12 s13 s14 s15 s16 s17 s18 : Slot) (d : D) (r : List Slot) (W : Wt) (k : D → Sta → Out) (e : RX) : rVar 19 ⟨s0 :: s1 :: s2 :: s3 :: s4 :: s5 :: s6 :: s7 :: s8 :: s9 :: s10 :: s11 :: s12 :: s13 :: s14 :: s15 :: s16 :: s17 :: s18 :: .val d :: r, W⟩ k e = k d ⟨s0 :: s1 :: s2 :: s3 :: s4 :: s5 :: s6 :: s7 :: s8 :: s9 :: s10 :: s11 :: s12 :: s13 :: s14 :: s15 :: s16 :: s17 :: s18 :: .val d :: r, W⟩ := rfl
theorem rVarL19 (s0 s1 s2 s3 s4 s5 s6 s7 s8 s9 s10 s11 s12 s13 s14 s15 s16 s17 s18 : Slot) (xs : List D) (r : List Slot) (W : Wt) (k : D → Sta → Out) (e : RX) : rVar 19 ⟨s0 :: s1 :: s2 :: s3 :: s4 :: s5 :: s6 :: s7 :: s8 :: s9 :: s10 :: s11 :: s12 :: s13 :: s14 :: s15 :: s16 :: s17 :: s18 :: .own (.lst xs) :: r, W⟩ k e = k (.lst xs) ⟨s0 :: s1 :: s2 :: s3 :: s4 :: s5 :: s6 :: s7 :: s8 :: s9 :: s10 :: s11 :: s12 :: s13 :: s14 :: s15 :: s16 :: s17 :: s18 :: .val (.lst xs) :: r, W⟩ := rfl
theorem rVarD19 (s0 s1 s2 s3 s4 s5 s6 s7 s8 s9 s10 s11 s12 s13 s14 s15 s16 s17 s18 : Slot) (ks vs : List D) (r : List Slot) (W : Wt) (k : D → Sta → Out) (e : RX) : rVar 19 ⟨s0 :: s1 :: s2 :: s3 :: s4 :: s5 :: s6 :: s7 :: s8 :: s9 :: s10 :: s11 :: s12 :: s13 :: s14 :: s15 :: s16 :: s17 :: s18 :: .own (.dct ks vs) :: r, W⟩ k e = k (.dct ks vs) ⟨s0 :: s1 :: s2 :: s3 :: s4 :: s5 :: s6 :: s7 :: s8 :: s9 :: s10 :: s11 :: s12 :: s13 :: s14 :: s15 :: s16 :: s17 :: s18 :: .val (.dct ks vs) :: r, W⟩ := rfl
theorem rkVarV19 (s0 s1 s2 s3 s4 s5 s6 s7 s8 s9 s10 s11 s12 s13 s14 s15 s16 s17 s18 : Slot) (d : D) (r : List Slot) (W : Wt) (k : Pk → Sta → Out) (e : RX) : rkVar 19 ⟨s0 :: s1 :: s2 :: s3 :: s4 :: s5 :: s6 :: s7 :: s8 :: s9 :: s10 :: s11 :: s12 :: s13 :: s14 :: s15 :: s16 :: s17 :: s18 :: .val d :: r, W⟩ k e = k (.val d) ⟨s0 :: s1 :: s2 :: s3 :: s4 :: s5 :: s6 :: s7 :: s8 :: s9 :: s10 :: s11 :: s12 :: s13 :: s14 :: s15 :: s16 :: s17 :: s18 :: .val d :: r, W⟩ := rfl
theorem rkVarO19 (s0 s1 s2 s3 s4 s5 s6 s7 s8 s9 s10 s11 s12 s13 s14 s15 s16 s17 s18 : Slot) (o : Own) (r : List Slot) (W : Wt) (k : Pk → Sta → Out) (e : RX) : rkVar 19 ⟨s0 :: s1 :: s2 :: s3 :: s4 :: s5 :: s6 :: s7 :: s8 :: s9 :: s10 :: s11 :: s12 :: s13 :: s14 :: s15 :: s16 :: s17 :: s18 :: .own o :: r, W⟩ k e = k (.slot 19) ⟨s0 :: s1 :: s2 :: s3 :: s4 :: s5 :: s6 :: s7 :: s8 :: s9 :: s10 :: s11 :: s12 :: s13 :: s14 :: s15 :: s16 :: s17 :: s18 :: .own o :: r, W⟩ := rfl
theorem kSN19 (s0 s1 s2 s3 s4 s5 s6 s7 s8 s9 s10 s11 s12 s13 s14 s15 s16 s17 s18 : Slot) (s : Slot) (d : D) (r : List Slot) (W : Wt) (K : Ks) : kS 19 K d ⟨s0 :: s1 :: s2 :: s3 :: s4 :: s5 :: s6 :: s7 :: s8 :: s9 :: s10 :: s11 :: s12 :: s13 :: s14 :: s15 :: s16 :: s17 :: s18 :: s :: r, W⟩ = K.nx ⟨s0 :: s1 :: s2 :: s3 :: s4 :: s5 :: s6 :: s7 :: s8 :: s9 :: s10 :: s11 :: s12 :: s13 :: s14 :: s15 :: s16 :: s17 :: s18 :: .val d :: r, W⟩ := rfl
theorem kSON19 (s0 s1 s2 s3 s4 s5 s6 s7 s8 s9 s10 s11 s12 s13 s14 s15 s16 s17 s18 : Slot) (s : Slot) (o : Own) (r : List Slot) (W : Wt) (K : Ks) : kSO 19 K o ⟨s0 :: s1 :: s2 :: s3 :: s4 :: s5 :: s6 :: s7 :: s8 :: s9 :: s10 :: s11 :: s12 :: s13 :: s14 :: s15 :: s16 :: s17 :: s18 :: s :: r, W⟩ = K.nx ⟨s0 :: s1 :: s2 :: s3 :: s4 :: s5 :: s6 :: s7 :: s8 :: s9 :: s10 :: s11 :: s12 :: s13 :: s14 :: s15 :: s16 :: s17 :: s18 :: .own o :: r, W⟩ := rfl
theorem gNN19 (s0 s1 s2 s3 s4 s5 s6 s7 s8 s9 s10 s11 s12 s13 s14 s15 s16 s17 s18 : Slot) (s : Slot) (d : D) (r : List Slot) (W : Wt) (k : Sta → Out) : gN 19 d ⟨s0 :: s1 :: s2 :: s3 :: s4 :: s5 :: s6 :: s7 :: s8 :: s9 :: s10 :: s11 :: s12 :: s13 :: s14 :: s15 :: s16 :: s17 :: s18 :: s :: r, W⟩ k = k ⟨s0 :: s1 :: s2 :: s3 :: s4 :: s5 :: s6 :: s7 :: s8 :: s9 :: s10 :: s11 :: s12 :: s13 :: s14 :: s15 :: s16 :: s17 :: s18 :: .val d :: r, W⟩ := rfl
theorem conO19 (s0 s1 s2 s3 s4 s5 s6 s7 s8 s9 s10 s11 s12 s13 s14 s15 s16 s17 s18 : Slot) (o : Own) (r : List Slot) (W : Wt) : con ⟨s0 :: s1 :: s2 :: s3 :: s4 :: s5 :: s6 :: s7 :: s8 :: s9 :: s10 :: s11 :: s12 :: s13 :: s14 :: s15 :: s16 :: s17 :: s18 :: .own o :: r, W⟩ (.slot 19) = .own o := rfl
theorem putO19 (s0 s1 s2 s3 s4 s5 s6 s7 s8 s9 s10 s11 s12 s13 s14 s15 s16 s17 s18 : Slot) (s : Slot) (o : Own) (r : List Slot) (W : Wt) : putC ⟨s0 :: s1 :: s2 :: s3 :: s4 :: s5 :: s6 :: s7 :: s8 :: s9 :: s10 :: s11 :: s12 :: s13 :: s14 :: s15 :: s16 :: s17 :: s18 :: s :: r, W⟩ (.slot 19) o = ⟨s0 :: s1 :: s2 :: s3 :: s4 :: s5 :: s6 :: s7 :: s8 :: s9 :: s10 :: s11 :: s12 :: s13 :: s14 :: s15 :: s16 :: s17 :: s18 :: .own o :: r, W⟩ := rfl
theorem rVarV20 (s0 s1 s2 s3 s4 s5 s6 s7 s8 s9 s10 s11 s12 s13 s14 s15 s16 s17 s18 s19 : Slot) (d : D) (r : List Slot) (W : Wt) (k : D → Sta → Out) (e : RX) : rVar 20 ⟨s0 :: s1 :: s2 :: s3 :: s4 :: s5 :: s6 :: s7 :: s8 :: s9 :: s10 :: s11 :: s12 :: s13 :: s14 :: s15 :: s16 :: s17 :: s18 :: s19 :: .val d :: r, W⟩ k e = k d ⟨s0 :: s1 :: s2 :: s3 :: s4 :: s5 :: s6 :: s7 :: s8 :: s9 :: s10 :: s11 :: s12 :: s13 :: s14 :: s15 :: s16 :: s17 :: s18 :: s19 :: .val d :: r, W⟩ := rfl
theorem rVarL20 (s0 s1 s2 s3 s4 s5 s6 s7 s8 s9 s10 s11 s12 s13 s14 s15 s16 s17 s18 s19 : Slot) (xs : List D) (r : List Slot) (W : Wt) (k : D → Sta → Out) (e : RX) : rVar 20 ⟨s0 :: s1 :: s2 :: s3 :: s4 :: s5 :: s6 :: s7 :: s8 :: s9 :: s10 :: s11 :: s12 :: s13 :: s14 :: s15 :: s16 :: s17 :: s18 :: s19 :: .own (.lst xs) :: r, W⟩ k e = k (.lst xs) ⟨s0 :: s1 :: s2 :: s3 :: s4 :: s5 :: s6 :: s7 :: s8 :: s9 :: s10 :: s11 :: s12 :: s13 :: s14 :: s15 :: s16 :: s17 :: s18 :: s19 :: .val (.lst xs) :: r, W⟩ := rfl
theorem rVarD20 (s0 s1 s2 s3 s4 s5 s6 s7 s8 s9 s10 s11 s12 s13 s14 s15 s16 s17 s18 s19 : Slot) (ks vs : List D) (r : List Slot) (W : Wt) (k : D → Sta → Out) (e : RX) : rVar 20 ⟨s0 :: s1 :: s2 :: s3 :: s4 :: s5 :: s6 :: s7 :: s8 :: s9 :: s10 :: s11 :: s12 :: s13 :: s14 :: s15 :: s16 :: s17 :: s18 :: s19 :: .own (.dct ks vs) :: r, W⟩ k e = k (.dct ks vs) ⟨s0 :: s1 :: s2 :: s3 :: s4 :: s5 :: s6 :: s7 :: s8 :: s9 :: s10 :: s11 :: s12 :: s13 :: s14 :: s15 :: s16 :: s17 :: s18 :: s19 :: .val (.dct ks vs) :: r, W⟩ := rfl
theorem rkVarV20 (s0 s1 s2 s3 s4 s5 s6 s7 s8 s9 s10 s11 s12 s13 s14 s15 s16 s17 s18 s19 : Slot) (d : D) (r : List Slot) (W : Wt) (k : Pk → Sta → Out) (e : RX) : rkVar 20 ⟨s0 :: s1 :: s2 :: s3 :: s4 :: s5 :: s6 :: s7 :: s8 :: s9 :: s10 :: s11 :: s12 :: s13 :: s14 :: s15 :: s16 :: s17 :: s18 :: s19 :: .val d :: r, W⟩ k e = k (.val d) ⟨s0 :: s1 :: s2 :: s3 :: s4 :: s5 :: s6 :: s7 :: s8 :: s9 :: s10 :: s11 :: s12 :: s13 :: s14 :: s15 :: s16 :: s17 :: s18 :: s19 :: .val d :: r, W⟩ := rfl
theorem rkVarO20 (s0 s1 s2 s3 s4 s5 s6 s7 s8 s9 s10 s11 s12 s13 s14 s15 s16 s17 s18 s19 : Slot) (o : Own) (r : List Slot) (W : Wt) (k : Pk → Sta → Out) (e : RX) : rkVar 20 ⟨s0 :: s1 :: s2 :: s3 :: s4 :: s5 :: s6 :: s7 :: s8 :: s9 :: s10 :: s11 :: s12 :: s13 :: s14 :: s15 :: s16 :: s17 :: s18 :: s19 :: .own o :: r, W⟩ k e = k (.slot 20) ⟨s0 :: s1 :: s2 :: s3 :: s4 :: s5 :: s6 :: s7 :: s8 :: s9 :: s10 :: s11 :: s12 :: s13 :: s14 :: s15 :: s16 :: s17 :: s18 :: s19 :: .own o :: r, W⟩ := rfl
theorem kSN20 (s0 s1 s2 s3 s4 s5 s6 s7 s8 s9 s10 s11 s12 s13 s14 s15 s16 s17 s18 s19 : Slot) (s : Slot) (d : D) (r : List Slot) (W : Wt) (K : Ks) : kS 20 K d ⟨s0 :: s1 :: s2 :: s3 :: s4 :: s5 :: s6 :: s7 :: s8 :: s9 :: s10 :: s11 :: s12 :: s13 :: s14 :: s15 :: s16 :: s17 :: s18 :: s19 :: s :: r, W⟩ = K.nx ⟨s0 :: s1 :: s2 :: s3 :: s4 :: s5 :: s6 :: s7 :: s8 :: s9 :: s10 :: s11 :: s12 :: s13 :: s14 :: s15 :: s16 :: s17 :: s18 :: s19 :: .val d :: r, W⟩ := rfl
theorem kSON20 (s0 s1 s2 s3 s4 s5 s6 s7 s8 s9 s10 s11 s12 s13 s14 s15 s16 s17 s18 s19 : Slot) (s : Slot) (o : Own) (r : List Slot) (W : Wt) (K : Ks) : kSO 20 K o ⟨s0 :: s1 :: s2 :: s3 :: s4 :: s5 :: s6 :: s7 :: s8 :: s9 :: s10 :: s11 :: s12 :: s13 :: s14 :: s15 :: s16 :: s17 :: s18 :: s19 :: s :: r, W⟩ = K.nx ⟨s0 :: s1 :: s2 :: s3 :: s4 :: s5 :: s6 :: s7 :: s8 :: s9 :: s10 :: s11 :: s12 :: s13 :: s14 :: s15 :: s16 :: s17 :: s18 :: s19 :: .own o :: r, W⟩ := rfl
theorem gNN20 (s0 s1 s2 s3 s4 s5 s6 s7 s8 s9 s10 s11 s12 s13 s14 s15 s16 s17 s18 s19 : Slot) (s : Slot) (d : D) (r : List Slot) (W : Wt) (k : Sta → Out) : gN 20 d ⟨s0 :: s1 :: s2 :: s3 :: s4 :: s5 :: s6 :: s7 :: s8 :: s9 :: s10 :: s11 :: s12 :: s13 :: s14 :: s15 :: s16 :: s17 :: s18 :: s19 :: s :: r, W⟩ k = k ⟨s0 :: s1 :: s2 :: s3 :: s4 :: s5 :: s6 :: s7 :: s8 :: s9 :: s10 :: s11 :: s12 :: s13 :: s14 :: s15 :: s16 :: s17 :: s18 :: s19 :: .val d :: r, W⟩ := rfl
theorem conO20 (s0 s1 s2 s3 s4 s5 s6 s7 s8 s9 s10 s11 s12 s13 s14 s15 s16 s17 s18 s19 : Slot) (o : Own) (r : List Slot) (W : Wt) : con ⟨s0 :: s1 :: s2 :: s3 :: s4 :: s5 :: s6 :: s7 :: s8 :: s9 :: s10 :: s11 :: s12 :: s13 :: s14 :: s15 :: s16 :: s17 :: s18 :: s19 :: .own o :: r, W⟩ (.slot 20) = .own o := rfl
theorem putO20 (s0 s1 s2 s3 s4 s5 s6 s7 s8 s9 s10 s11 s12 s13 s14 s15 s16 s17 s18 s19 : Slot) (s : Slot) (o : Own) (r : List Slot) (W : Wt) : putC ⟨s0 :: s1 :: s2 :: s3 :: s4 :: s5 :: s6 :: s7 :: s8 :: s9 :: s10 :: s11 :: s12 :: s13 :: s14 :: s15 :: s16 :: s17 :: s18 :: s19 :: s :: r, W⟩ (.slot 20) o = ⟨s0 :: s1 :: s2 :: s3 :: s4 :: s5 :: s6 :: s7 :: s8 :: s9 :: s10 :: s11 :: s12 :: s13 :: s14 :: s15 :: s16 :: s17 :: s18 :: s19 :: .own o :: r, W⟩ := rfl
theorem rVarV21 (s0 s1 s2 s3 s4 s5 s6 s7 s8 s9 s10 s11 s12 s13 s14 s15 s16 s17 s18 s19 s20 : Slot) (d : D) (r : List Slot) (W : Wt) (k : D → Sta → Out) (e : RX) : rVar 21 ⟨s0 :: s1 :: s2 :: s3 :: s4 :: s5 :: s6 :: s7 :: s8 :: s9 :: s10 :: s11 :: s12 :: s13 :: s14 :: s15 :: s16 :: s17 :: s18 :: s19 :: s20 :: .val d :: r, W⟩ k e = k d ⟨s0 :: s1 :: s2 :: s3 :: s4 :: s5 :: s6 :: s7 :: s8 :: s9 :: s10 :: s11 :: s12 :: s13 :: s14 :: s15 :: s16 :: s17 :: s18 :: s19 :: s20 :: .val d :: r, W⟩ := rfl
theorem rVarL21 (s0 s1 s2 s3 s4 s5 s6 s7 s8 s9 s10 s11 s12 s13 s14 s15 s16 s17 s18 s19 s20 : Slot) (xs : List D) (r : List Slot) (W : Wt) (k : D → Sta → Out) (e : RX) : rVar 21 ⟨s0 :: s1 :: s2 :: s3 :: s4 :: s5 :: s6 :: s7 :: s8 :: s9 :: s10 :: s11 :: s12 :: s13 :: s14 :: s15 :: s16 :: s17 :: s18 :: s19 :: s20 :: .own (.lst xs) :: r, W⟩ k e = k (.lst xs) ⟨s0 :: s1 :: s2 :: s3 :: s4 :: s5 :: s6 :: s7 :: s8 :: s9 :: s10 :: s11 :: s12 :: s13 :: s14 :: s15 :: s16 :: s17 :: s18 :: s19 :: s20 :: .val (.lst xs) :: r, W⟩ := rfl
theorem rVarD21 (s0 s1 s2 s3 s4 s5 s6 s7 s8 s9 s10 s11 s12 s13 s14 s15 s16 s17 s18 s19 s20 : Slot) (ks vs : List D) (r : List Slot) (W : Wt) (k : D → Sta → Out) (e : RX) : rVar 21 ⟨s0 :: s1 :: s2 :: s3 :: s4 :: s5 :: s6 :: s7 :: s8 :: s9 :: s10 :: s11 :: s12 :: s13 :: s14 :: s15 :: s16 :: s17 :: s18 :: s19 :: s20 :: .own (.dct ks vs) :: r, W⟩ k e = k (.dct ks vs) ⟨s0 :: s1 :: s2 :: s3 :: s4 :: s5 :: s6 :: s7 :: s8 :: s9 :: s10 :: s11 :: s12 :: s13 :: s14 :: s15 :: s16 :: s17 :: s18 :: s19 :: s20 :: .val (.dct ks vs) :: r, W⟩ := rfl
theorem rkVarV21 (s0 s1 s2 s3 s4 s5 s6 s7 s8 s9 s10 s11 s12 s13 s14 s15 s16 s17 s18 s19 s20 : Slot) (d : D) (r : List Slot) (W : Wt) (k : Pk → Sta → Out) (e : RX) : rkVar 21 ⟨s0 :: s1 :: s2 :: s3 :: s4 :: s5 :: s6 :: s7 :: s8 :: s9 :: s10 :: s11 :: s12 :: s13 :: s14 :: s15 :: s16 :: s17 :: s18 :: s19 :: s20 :: .val d :: r, W⟩ k e = k (.val d) ⟨s0 :: s1 :: s2 :: s3 :: s4 :: s5 :: s6 :: s7 :: s8 :: s9 :: s10 :: s11 :: s12 :: s13 :: s14 :: s15 :: s16 :: s17 :: s18 :: s19 :: s20 :: .val d :: r, W⟩ := rfl
theorem rkVarO21 (s0 s1 s2 s3 s4 s5 s6 s7 s8 s9 s10 s11 s12 s13 s14 s15 s16 s17 s18 s19 s20 : Slot) (o : Own) (r : List Slot) (W : Wt) (k : Pk → Sta → Out) (e : RX) : rkVar 21 ⟨s0 :: s1 :: s2 :: s3 :: s4 :: s5 :: s6 :: s7 :: s8 :: s9 :: s10 :: s11 :: s12 :: s13 :: s14 :: s15 :: s16 :: s17 :: s18 :: s19 :: s20 :: .own o :: r, W⟩ k e = k (.slot 21) ⟨s0 :: s1 :: s2 :: s3 :: s4 :: s5 :: s6 :: s7 :: s8 :: s9 :: s10 :: s11 :: s12 :: s13 :: s14 :: s15 :: s16 :: s17 :: s18 :: s19 :: s20 :: .own o :: r, W⟩ := rfl
theorem kSN21 (s0 s1 s2 s3 s4 s5 s6 s7 s8 s9 s10 s11 s12 s13 s14 s15 s16 s17 s18 s19 s20 : Slot) (s : Slot) (d : D) (r : List Slot) (W : Wt) (K : Ks) : kS 21 K d ⟨s0 :: s1 :: s2 :: s3 :: s4 :: s5 :: s6 :: s7 :: s8 :: s9 :: s10 :: s11 :: s12 :: s13 :: s14 :: s15 :: s16 :: s17 :: s18 :: s19 :: s20 :: s :: r, W⟩ = K.nx ⟨s0 :: s1 :: s2 :: s3 :: s4 :: s5 :: s6 :: s7 :: s8 :: s9 :: s10 :: s11 :: s12 :: s13 :: s14 :: s15 :: s16 :: s17 :: s18 :: s19 :: s20 :: .val d :: r, W⟩ := rfl
theorem kSON21 (s0 s1 s2 s3 s4 s5 s6 s7 s8 s9 s10 s11 s12 s13 s14 s15 s16 s17 s18 s19 s20 : Slot) (s : Slot) (o : Own) (r : List Slot) (W : Wt) (K : Ks) : kSO 21 K o ⟨s0 :: s1 :: s2 :: s3 :: s4 :: s5 :: s6 :: s7 :: s8 :: s9 :: s10 :: s11 :: s12 :: s13 :: s14 :: s15 :: s16 :: s17 :: s18 :: s19 :: s20 :: s :: r, W⟩ = K.nx ⟨s0 :: s1 :: s2 :: s3 :: s4 :: s5 :: s6 :: s7 :: s8 :: s9 :: s10 :: s11 :: s12 :: s13 :: s14 :: s15 :: s16 :: s17 :: s18 :: s19 :: s20 :: .own o :: r, W⟩ := rfl
theorem gNN21 (s0 s1 s2 s3 s4 s5 s6 s7 s8 s9 s10 s11 s12 s13 s14 s15 s16 s17 s18 s19 s20 : Slot) (s : Slot) (d : D) (r : List Slot) (W : Wt) (k : Sta → Out) : gN 21 d ⟨s0 :: s1 :: s2 :: s3 :: s4 :: s5 :: s6 :: s7 :: s8 :: s9 :: s10 :: s11 :: s12 :: s13 :: s14 :: s15 :: s16 :: s17 :: s18 :: s19 :: s20 :: s :: r, W⟩ k = k ⟨s0 :: s1 :: s2 :: s3 :: s4 :: s5 :: s6 :: s7 :: s8 :: s9 :: s10 :: s11 :: s12 :: s13 :: s14 :: s15 :: s16 :: s17 :: s18 :: s19 :: s20 :: .val d :: r, W⟩ := rfl
theorem conO21 (s0 s1 s2 s3 s4 s5 s6 s7 s8 s9 s10 s11 s12 s13 s14 s15 s16 s17 s18 s19 s20 : Slot) (o : Own) (r : List Slot) (W : Wt) : con ⟨s0 :: s1 :: s2 :: s3 :: s4 :: s5 :: s6 :: s7 :: s8 :: s9 :: s10 :: s11 :: s12 :: s13 :: s14 :: s15 :: s16 :: s17 :: s18 :: s19 :: s20 :: .own o :: r, W⟩ (.slot 21) = .own o := rfl
theorem putO21 (s0 s1 s2 s3 s4 s5 s6 s7 s8 s9 s10 s11 s12 s13 s14 s15 s16 s17 s18 s19 s20 : Slot) (s : Slot) (o : Own) (r : List Slot) (W : Wt) : putC ⟨s0 :: s1 :: s2 :: s3 :: s4 :: s5 :: s6 :: s7 :: s8 :: s9 :: s10 :: s11 :: s12 :: s13 :: s14 :: s15 :: s16 :: s17 :: s18 :: s19 :: s20 :: s :: r, W⟩ (.slot 21) o = ⟨s0 :: s1 :: s2 :: s3 :: s4 :: s5 :: s6 :: s7 :: s8 :: s9 :: s10 :: s11 :: s12 :: s13 :: s14 :: s15 :: s16 :: s17 :: s18 :: s19 :: s20 :: .own o :: r, W⟩ := rfl
theorem rVarV22 (s0 s1 s2 s3 s4 s5 s6 s7 s8 s9 s10 s11 s12 s13 s14 s15 s16 s17 s18 s19 s20 s21 : Slot) (d : D) (r : List Slot) (W : Wt) (k : D → Sta → Out) (e : RX) : rVar 22 ⟨s0 :: s1 :: s2 :: s3 :: s4 :: s5 :: s6 :: s7 :: s8 :: s9 :: s10 :: s11 :: s12 :: s13 :: s14 :: s15 :: s16 :: s17 :: s18 :: s19 :: s20 :: s21 :: .val d :: r, W⟩ k e = k d ⟨s0 :: s1 :: s2 :: s3 :: s4 :: s5 :: s6 :: s7 :: s8 :: s9 :: s10 :: s11 :: s12 :: s13 :: s14 :: s15 :: s16 :: s17 :: s18 :: s19 :: s20 :: s21 :: .val d :: r, W⟩ := rfl
theorem rVarL22 (s0 s1 s2 s3 s4 s5 s6 s7 s8 s9 s10 s11 s12 s13 s14 s15 s16 s17 s18 s19 s20 s21 : Slot) (xs : List D) (r : List Slot) (W : Wt) (k : D → Sta → Out) (e : RX) : rVar 22 ⟨s0 :: s1 :: s2 :: s3 :: s4 :: s5 :: s6 :: s7 :: s8 :: s9 :: s10 :: s11 :: s12 :: s13 :: s14 :: s15 :: s16 :: s17 :: s18 :: s19 :: s20 :: s21 :: .own (.lst xs) :: r, W⟩ k e = k (.lst xs) ⟨s0 :: s1 :: s2 :: s3 :: s4 :: s5 :: s6 :: s7 :: s8 :: s9 :: s10 :: s11 :: s12 :: s13 :: s14 :: s15 :: s16 :: s17 :: s18 :: s19 :: s20 :: s21 :: .val (.lst xs) :: r, W⟩ := rfl
theorem rVarD22 (s0 s1 s2 s3 s4 s5 s6 s7 s8 s9 s10 s11 s12 s13 s14 s15 s16 s17 s18 s19 s20 s21 : Slot) (ks vs : List D) (r : List Slot) (W : Wt) (k : D → Sta → Out) (e : RX) : rVar 22 ⟨s0 :: s1 :: s2 :: s3 :: s4 :: s5 :: s6 :: s7 :: s8 :: s9 :: s10 :: s11 :: s12 :: s13 :: s14 :: s15 :: s16 :: s17 :: s18 :: s19 :: s20 :: s21 :: .own (.dct ks vs) :: r, W⟩ k e = k (.dct ks vs) ⟨s0 :: s1 :: s2 :: s3 :: s4 :: s5 :: s6 :: s7 :: s8 :: s9 :: s10 :: s11 :: s12 :: s13 :: s14 :: s15 :: s16 :: s17 :: s18 :: s19 :: s20 :: s21 :: .val (.dct ks vs) :: r, W⟩ := rfl
theorem rkVarV22 (s0 s1 s2 s3 s4 s5 s6 s7 s8 s9 s10 s11 s12 s13 s14 s15 s16 s17 s18 s19 s20 s21 : Slot) (d : D) (r : List Slot) (W : Wt) (k : Pk → Sta → Out) (e : RX) : rkVar 22 ⟨s0 :: s1 :: s2 :: s3 :: s4 :: s5 :: s6 :: s7 :: s8 :: s9 :: s10 :: s11 :: s12 :: s13 :: s14 :: s15 :: s16 :: s17 :: s18 :: s19 :: s20 :: s21 :: .val d :: r, W⟩ k e = k (.val d) ⟨s0 :: s1 :: s2 :: s3 :: s4 :: s5 :: s6 :: s7 :: s8 :: s9 :: s10 :: s11 :: s12 :: s13 :: s14 :: s15 :: s16 :: s17 :: s18 :: s19 :: s20 :: s21 :: .val d :: r, W⟩ := rfl
theorem rkVarO22 (s0 s1 s2 s3 s4 s5 s6 s7 s8 s9 s10 s11 s12 s13 s14 s15 s16 s17 s18 s19 s20 s21 : Slot) (o : Own) (r : List Slot) (W : Wt) (k : Pk → Sta → Out) (e : RX) : rkVar 22 ⟨s0 :: s1 :: s2 :: s3 :: s4 :: s5 :: s6 :: s7 :: s8 :: s9 :: s10 :: s11 :: s12 :: s13 :: s14 :: s15 :: s16 :: s17 :: s18 :: s19 :: s20 :: s21 :: .own o :: r, W⟩ k e = k (.slot 22) ⟨s0 :: s1 :: s2 :: s3 :: s4 :: s5 :: s6 :: s7 :: s8 :: s9 :: s10 :: s11 :: s12 :: s13 :: s14 :: s15 :: s16 :: s17 :: s18 :: s19 :: s20 :: s21 :: .own o :: r, W⟩ := rfl
theorem kSN22 (s0 s1 s2 s3 s4 s5 s6 s7 s8 s9 s10 s11 s12 s13 s14 s15 s16 s17 s18 s19 s20 s21 : Slot) (s : Slot) (d : D) (r : List Slot) (W : Wt) (K : Ks) : kS 22 K d ⟨s0 :: s1 :: s2 :: s3 :: s4 :: s5 :: s6 :: s7 :: s8 :: s9 :: s10 :: s11 :: s12 :: s13 :: s14 :: s15 :: s16 :: s17 :: s18 :: s19 :: s20 :: s21 :: s :: r, W⟩ = K.nx ⟨s0 :: s1 :: s2 :: s3 :: s4 :: s5 :: s6 :: s7 :: s8 :: s9 :: s10 :: s11 :: s12 :: s13 :: s14 :: s15 :: s16 :: s17 :: s18 :: s19 :: s20 :: s21 :: .val d :: r, W⟩ := rfl
theorem kSON22 (s0 s1 s2 s3 s4 s5 s6 s7 s8 s9 s10 s11 s12 s13 s14 s15 s16 s17 s18 s19 s20 s21 : Slot) (s : Slot) (o : Own) (r : List Slot) (W : Wt) (K : Ks) : kSO 22 K o ⟨s0 :: s1 :: s2 :: s3 :: s4 :: s5 :: s6 :: s7 :: s8 :: s9 :: s10 :: s11 :: s12 :: s13 :: s14 :: s15 :: s16 :: s17 :: s18 :: s19 :: s20 :: s21 :: s :: r, W⟩ = K.nx ⟨s0 :: s1 :: s2 :: s3 :: s4 :: s5 :: s6 :: s7 :: s8 :: s9 :: s10 :: s11 :: s12 :: s13 :: s14 :: s15 :: s16 :: s17 :: s18 :: s19 :: s20 :: s21 :: .own o :: r, W⟩ := rfl
theorem gNN22 (s0 s1 s2 s3 s4 s5 s6 s7 s8 s9 s10 s11 s12 s13 s14 s15 s16 s17 s18 s19 s20 s21 : Slot) (s : Slot) (d : D) (r : List Slot) (W : Wt) (k : Sta → Out) : gN 22 d ⟨s0 :: s1 :: s2 :: s3 :: s4 :: s5 :: s6 :: s7 :: s8 :: s9 :: s10 :: s11 :: s12 :: s13 :: s14 :: s15 :: s16 :: s17 :: s18 :: s19 :: s20 :: s21 :: s :: r, W⟩ k = k ⟨s0 :: s1 :: s2 :: s3 :: s4 :: s5 :: s6 :: s7 :: s8 :: s9 :: s10 :: s11 :: s12 :: s13 :: s14 :: s15 :: s16 :: s17 :: s18 :: s19 :: s20 :: s21 :: .val d :: r, W⟩ := rfl
theorem conO22 (s0 s1 s2 s3 s4 s5 s6 s7 s8 s9 s10 s11 s12 s13 s14 s15 s16 s17 s18 s19 s20 s21 : Slot) (o : Own) (r : List Slot) (W : Wt) : con ⟨s0 :: s1 :: s2 :: s3 :: s4 :: s5 :: s6 :: s7 :: s8 :: s9 :: s10 :: s11 :: s12 :: s13 :: s14 :: s15 :: s16 :: s17 :: s18 :: s19 :: s20 :: s21 :: .own o :: r, W⟩ (.slot 22) = .own o := rfl
theorem putO22 (s0 s1 s2 s3 s4 s5 s6 s7 s8 s9 s10 s11 s12 s13 s14 s15 s16 s17 s18 s19 s20 s21 : Slot) (s : Slot) (o : Own) (r : List Slot) (W : Wt) : putC ⟨s0 :: s1 :: s2 :: s3 :: s4 :: s5 :: s6 :: s7 :: s8 :: s9 :: s10 :: s11 :: s12 :: s13 :: s14 :: s15 :: s16 :: s17 :: s18 :: s19 :: s20 :: s21 :: s :: r, W⟩ (.slot 22) o = ⟨s0 :: s1 :: s2 :: s3 :: s4 :: s5 :: s6 :: s7 :: s8 :: s9 :: s10 :: s11 :: s12 :: s13 :: s14 :: s15 :: s16 :: s17 :: s18 :: s19 :: s20 :: s21 :: .own o :: r, W⟩ := rfl
theorem rVarV23 (s0 s1 s2 s3 s4 s5 s6 s7 s8 s9 s10 s11 s12 s13 s14 s15 s16 s17 s18 s19 s20 s21 s22 : Slot) (d : D) (r : List Slot) (W : Wt) (k : D → Sta → Out) (e : RX) : rVar 23 ⟨s0 :: s1 :: s2 :: s3 :: s4 :: s5 :: s6 :: s7 :: s8 :: s9 :: s10 :: s11 :: s12 :: s13 :: s14 :: s15 :: s16 :: s17 :: s18 :: s19 :: s20 :: s21 :: s22 :: .val d :: r, W⟩ k e = k d ⟨s0 :: s1 :: s2 :: s3 :: s4 :: s5 :: s6 :: s7 :: s8 :: s9 :: s10 :: s11 :: s12 :: s13 :: s14 :: s15 :: s16 :: s17 :: s18 :: s19 :: s20 :: s21 :: s22 :: .val d :: r, W⟩ := rfl
theorem rVarL23 (s0 s1 s2 s3 s4 s5 s6 s7 s8 s9 s10 s11 s12 s13 s14 s15 s16 s17 s18 s19 s20 s21 s22 : Slot) (xs : List D) (r : List Slot) (W : Wt) (k : D → Sta → Out) (e : RX) : rVar 23 ⟨s0 :: s1 :: s2 :: s3 :: s4 :: s5 :: s6 :: s7 :: s8 :: s9 :: s10 :: s11 :: s12 :: s13 :: s14 :: s15 :: s16 :: s17 :: s18 :: s19 :: s20 :: s21 :: s22 :: .own (.lst xs) :: r, W⟩ k e = k (.lst xs) ⟨s0 :: s1 :: s2 :: s3 :: s4 :: s5 :: s6 :: s7 :: s8 :: s9 :: s10 :: s11 :: s12 :: s13 :: s14 :: s15 :: s16 :: s17 :: s18 :: s19 :: s20 :: s21 :: s22 :: .val (.lst xs) :: r, W⟩ := rfl
theorem rVarD23 (s0 s1 s2 s3 s4 s5 s6 s7 s8 s9 s10 s11 s12 s13 s14 s15 s16 s17 s18 s19 s20 s21 s22 : Slot) (ks vs : List D) (r : List Slot) (W : Wt) (k : D → Sta → Out) (e : RX) : rVar 23 ⟨s0 :: s1 :: s2 :: s3 :: s4 :: s5 :: s6 :: s7 :: s8 :: s9 :: s10 :: s11 :: s12 :: s13 :: s14 :: s15 :: s16 :: s17 :: s18 :: s19 :: s20 :: s21 :: s22 :: .own (.dct ks vs) :: r, W⟩ k e = k (.dct ks vs) ⟨s0 :: s1 :: s2 :: s3 :: s4 :: s5 :: s6 :: s7 :: s8 :: s9 :: s10 :: s11 :: s12 :: s13 :: s14 :: s15 :: s16 :: s17 :: s18 :: s19 :: s20 :: s21 :: s22 :: .val (.dct ks vs) :: r, W⟩ := rfl
theorem rkVarV23 (s0 s1 s2 s3 s4 s5 s6 s7 s8 s9 s10 s11 s12 s13 s14 s15 s16 s17 s18 s19 s20 s21 s22 : Slot) (d : D) (r : List Slot) (W : Wt) (k : Pk → Sta → Out) (e : RX) : rkVar 23 ⟨s0 :: s1 :: s2 :: s3 :: s4 :: s5 :: s6 :: s7 :: s8 :: s9 :: s10 :: s11 :: s12 :: s13 :: s14 :: s15 :: s16 :: s17 :: s18 :: s19 :: s20 :: s21 :: s22 :: .val d :: r, W⟩ k e = k (.val d) ⟨s0 :: s1 :: s2 :: s3 :: s4 :: s5 :: s6 :: s7 :: s8 :: s9 :: s10 :: s11 :: s12 :: s13 :: s14 :: s15 :: s16 :: s17 :: s18 :: s19 :: s20 :: s21 :: s22 :: .val d :: r, W⟩ := rfl
theorem rkVarO23 (s0 s1 s2 s3 s4 s5 s6 s7 s8 s9 s10 s11 s12 s13 s14 s15 s16 s17 s18 s19 s20 s21 s22 : Slot) (o : Own) (r : List Slot) (W : Wt) (k : Pk → Sta → Out) (e : RX) : rkVar 23 ⟨s0 :: s1 :: s2 :: s3 :: s4 :: s5 :: s6 :: s7 :: s8 :: s9 :: s10 :: s11 :: s12 :: s13 :: s14 :: s15 :: s16 :: s17 :: s18 :: s19 :: s20 :: s21 :: s22 :: .own o :: r, W⟩ k e = k (.slot 23) ⟨s0 :: s1 :: s2 :: s3 :: s4 :: s5 :: s6 :: s7 :: s8 :: s9 :: s10 :: s11 :: s12 :: s13 :: s14 :: s15 :: s16 :: s17 :: s18 :: s19 :: s20 :: s21 :: s22 :: .own o :: r, W⟩ := rfl
theorem kSN23 (s0 s1 s2 s3 s4 s5 s6 s7 s8 s9 s10 s11 s12 s13 s14 s15 s16 s17 s18 s19 s20 s21 s22 : Slot) (s : Slot) (d : D) (r : List Slot) (W : Wt) (K : Ks) : kS 23 K d ⟨s0 :: s1 :: s2 :: s3 :: s4 :: s5 :: s6 :: s7 :: s8 :: s9 :: s10 :: s11 :: s12 :: s13 :: s14 :: s15 :: s16 :: s17 :: s18 :: s19 :: s20 :: s21 :: s22 :: s :: r, W⟩ = K.nx ⟨s0 :: s1 :: s2 :: s3 :: s4 :: s5 :: s6 :: s7 :: s8 :: s9 :: s10 :: s11 :: s12 :: s13 :: s14 :: s15 :: s16 :: s17 :: s18 :: s19 :: s20 :: s21 :: s22 :: .val d :: r, W⟩ := rfl
theorem kSON23 (s0 s1 s2 s3 s4 s5 s6 s7 s8 s9 s10 s11 s12 s13 s14 s15 s16 s17 s18 s19 s20 s21 s22 : Slot) (s : Slot) (o : Own) (r : List Slot) (W : Wt) (K : Ks) : kSO 23 K o ⟨s0 :: s1 :: s2 :: s3 :: s4 :: s5 :: s6 :: s7 :: s8 :: s9 :: s10 :: s11 :: s12 :: s13 :: s14 :: s15 :: s16 :: s17 :: s18 :: s19 :: s20 :: s21 :: s22 :: s :: r, W⟩ = K.nx ⟨s0 :: s1 :: s2 :: s3 :: s4 :: s5 :: s6 :: s7 :: s8 :: s9 :: s10 :: s11 :: s12 :: s13 :: s14 :: s15 :: s16 :: s17 :: s18 :: s19 :: s20 :: s21 :: s22 :: .own o :: r, W⟩ := rfl
theorem gNN23 (s0 s1 s2 s3 s4 s5 s6 s7 s8 s9 s10 s11 s12 s13 s14 s15 s16 s17 s18 s19 s20 s21 s22 : Slot) (s : Slot) (d : D) (r : List Slot) (W : Wt) (k : Sta → Out) : gN 23 d ⟨s0 :: s1 :: s2 :: s3 :: s4 :: s5 :: s6 :: s7 :: s8 :: s9 :: s10 :: s11 :: s12 :: s13 :: s14 :: s15 :: s16 :: s17 :: s18 :: s19 :: s20 :: s21 :: s22 :: s :: r, W⟩ k = k ⟨s0 :: s1 :: s2 :: s3 :: s4 :: s5 :: s6 :: s7 :: s8 :: s9 :: s10 :: s11 :: s12 :: s13 :: s14 :: s15 :: s16 :: s17 :: s18 :: s19 :: s20 :: s21 :: s22 :: .val d :: r, W⟩ := rfl
theorem conO23 (s0 s1 s2 s3 s4 s5 s6 s7 s8 s9 s10 s11 s12 s13 s14 s15 s16 s17 s18 s19 s20 s21 s22 : Slot) (o : Own) (r : List Slot) (W : Wt) : con ⟨s0 :: s1 :: s2 :: s3 :: s4 :: s5 :: s6 :: s7 :: s8 :: s9 :: s10 :: s11 :: s12 :: s13 :: s14 :: s15 :: s16 :: s17 :: s18 :: s19 :: s20 :: s21 :: s22 :: .own o :: r, W⟩ (.slot 23) = .own o := rfl
theorem putO23 (s0 s1 s2 s3 s4 s5 s6 s7 s8 s9 s10 s11 s12 s13 s14 s15 s16 s17 s18 s19 s20 s21 s22 : Slot) (s : Slot) (o : Own) (r : List Slot) (W : Wt) : putC ⟨s0 :: s1 :: s2 :: s3 :: s4 :: s5 :: s6 :: s7 :: s8 :: s9 :: s10 :: s11 :: s12 :: s13 :: s14 :: s15 :: s16 :: s17 :: s18 :: s19 :: s20 :: s21 :: s22 :: s :: r, W⟩ (.slot 23) o = ⟨s0 :: s1 :: s2 :: s3 :: s4 :: s5 :: s6 :: s7 :: s8 :: s9 :: s10 :: s11 :: s12 :: s13 :: s14 :: s15 :: s16 :: s17 :: s18 :: s19 :: s20 :: s21 :: s22 :: .own o :: r, W⟩ := rfl
def zzU := And.intro (@rC.eq_1) (And.intro (@rOp.eq_1) (And.intro (@rUn.eq_1) (And.intro (@rSl.eq_1) (And.intro (@rNil.eq_1) (And.intro (@rCons.eq_1) (And.intro (@rTup.eq_1) (And.intro (@rLst.eq_1) (And.intro (@rCallB.eq_1) (And.intro (@rTest.eq_1) (And.intro (@rNot.eq_1) (And.intro (@rAnd.eq_1) (And.intro (@rOr.eq_1) (And.intro (@rAndV.eq_1) (And.intro (@rOrV.eq_1) (And.intro (@rNotV.eq_1) (And.intro (@rIf.eq_1) (And.intro (@rChain.eq_1) (And.intro (@rkOf.eq_1) (And.intro (@rIxK.eq_1) (And.intro (@rLenK.eq_1) (And.intro (@roLst.eq_1) (And.intro (@roDct.eq_1) (And.intro (@roCat.eq_1) (And.intro (@rpNil.eq_1) (And.intro (@rpCons.eq_1) (And.intro (@roDisp.eq_1) (And.intro (@rFrzO.eq_1) (And.intro (@rNext.eq_1) (And.intro (@rSeq.eq_1) (And.intro (@rBreak.eq_1) (And.intro (@rCont.eq_1) (And.intro (@rDrop.eq_1) (And.intro (@rRet.eq_1) (And.intro (@rRetN.eq_1) (And.intro (@rIfS.eq_1) (And.intro (@rAsg.eq_1) (And.intro (@rStore.eq_1) (And.intro (@rRaise.eq_1) (And.intro (@rLc.eq_1) (And.intro (@rYes.eq_1) (And.intro (@rCall.eq_1) (And.intro (@rxNil.eq_1) (And.intro (@rxVal.eq_1) (And.intro (@rxOwn.eq_1) (And.intro (@rgSub.eq_1) (And.intro (@runD.eq_1) (@K0.eq_1)))))))))))))))))))))))))))))))))))))))))))))))
def zzP := And.intro (@rSet_eq) (And.intro (@rSetO_eq) (And.intro (@rPar_eq) (And.intro (@kPr_mk) (And.intro (@rParX_eq) (And.intro (@kPX_v) (And.intro (@kPX_o) (And.intro (@kPX_n) (And.intro (@rPart_none) (And.intro (@rPart_some) (And.intro (@kPt_i) (And.intro (@thnO_some) (And.intro (@blK_bl) (And.intro (@rIter_eq) (And.intro (@kIt_l) (And.intro (@kIt_t) (And.intro (@rRng1_eq) (And.intro (@kRg_i) (And.intro (@rRng2_eq) (And.intro (@kRg2_i) (And.intro (@rTabG_eq) (And.intro (@kTb_s) (And.intro (@outK_rt) (And.intro (@outK_ex) (And.intro (@rgTup_mk) (And.intro (@rgCons_mk) (And.intro (@rgNil_mk) (And.intro (@rgName_eq) (And.intro (@rAppend_eq) (And.intro (@kAp_eq) (And.intro (@apK_eq) (And.intro (@rFor_eq) (And.intro (@rWhile_eq) (And.intro (@lcN_eq) (And.intro (@lcR_nil) (And.intro (@forR_nil) (And.intro (@fEq_if) (And.intro (@fNe_if) (@thnO_ite))))))))))))))))))))))))))))))))))))))
def zzQ := And.intro (@fAdd_i) (And.intro (@fAdd_s) (And.intro (@fAdd_t) (And.intro (@fAdd_l) (And.intro (@fSub_i) (And.intro (@fMul_i) (And.intro (@fDiv_i) (And.intro (@fMod_i) (And.intro (@fPow_i) (And.intro (@fLt_i) (And.intro (@fLe_i) (And.intro (@fGt_i) (And.intro (@fGe_i) (And.intro (@fNeg_i) (And.intro (@fAbs_i) (And.intro (@fInt1_i) (And.intro (@fMax2_i) (And.intro (@fMin2_i) (And.intro (@fixC_t) (And.intro (@fixC_l) (And.intro (@fixC_s) (And.intro (@fixC_d) (And.intro (@fixC_ol) (And.intro (@fixC_od) (And.intro (@flenC_t) (And.intro (@flenC_l) (And.intro (@flenC_s) (And.intro (@flenC_ol) (And.intro (@flenC_od) (And.intro (@fSl_t) (And.intro (@fSl_l) (And.intro (@fListA_t) (And.intro (@fListA_l) (And.intro (@fListA_d) (And.intro (@fTuple_t) (And.intro (@fTuple_l) (And.intro (@fIsi_eq) (And.intro (@fIn_t) (And.intro (@fIn_l) (And.intro (@inB_f) (And.intro (@inB_t) (And.intro (@fIsN_n) (And.intro (@fsetC_l) (And.intro (@fsetC_d) (And.intro (@keyK_i) (And.intro (@keyK_s) (And.intro (@ownD_l) (And.intro (@ownD_d) (And.intro (@thnO_none) (And.intro (@isi_int) (And.intro (@isi_bool) (And.intro (@isi_str) (And.intro (@isi_tuple) (And.intro (@isi_list) (And.intro (@isiT_int) (And.intro (@isiT_bool) (And.intro (@isiT_str) (And.intro (@isiT_tuple) (And.intro (@isiT_list) (And.intro (@dat_non) (And.intro (@dat_bl) (And.intro (@dat_int) (And.intro (@dat_str) (And.intro (@dat_tup) (And.intro (@dat_lst) (And.intro (@isInt_non) (And.intro (@isInt_bl) (And.intro (@isInt_int) (And.intro (@isInt_str) (And.intro (@isInt_tup) (And.intro (@isInt_lst) (And.intro (@isBool_non) (And.intro (@isBool_bl) (And.intro (@isBool_int) (And.intro (@isBool_str) (And.intro (@isBool_tup) (And.intro (@isBool_lst) (And.intro (@isStr_non) (And.intro (@isStr_bl) (And.intro (@isStr_int) (And.intro (@isStr_str) (And.intro (@isStr_tup) (And.intro (@isStr_lst) (And.intro (@isTup_non) (And.intro (@isTup_bl) (And.intro (@isTup_int) (And.intro (@isTup_str) (And.intro (@isTup_tup) (And.intro (@isTup_lst) (And.intro (@isLst_non) (And.intro (@isLst_bl) (And.intro (@isLst_int) (And.intro (@isLst_str) (And.intro (@isLst_tup) (And.intro (@isLst_lst) (And.intro (@sz_0) (And.intro (@sz_1) (And.intro (@sz_2) (And.intro (@sz_3) (And.intro (@sz_4) (And.intro (@sz_5) (And.intro (@sz_6) (And.intro (@sz_7) (And.intro (@sz_8) (And.intro (@sz_9) (And.intro (@sz_10) (And.intro (@sz_11) (And.intro (@sz_12) (And.intro (@eqD_tup) (And.intro (@eqD_str) (And.intro (@eqD_int) (And.intro (@eqDs_cons) (And.intro (@eqDs_nil) (And.intro (@eqDs_cn) (And.intro (@eqDs_nc) (And.intro (@at0) (And.intro (@at1) (And.intro (@at2) (And.intro (@at3) (And.intro (@at4) (And.intro (@good_int) (And.intro (@good_bl) (And.intro (@good_nil) (And.intro (@good_nilL) (And.intro (@good_non) (And.intro (@eqDs_nil_r) (And.intro (@eqDs_nil_l) (And.intro (@wipS_mk) (And.intro (@con_updW) (And.intro (@putC_adr) (And.intro (@updW_upd) (And.intro (@con_tup) (And.intro (@con_lst) (And.intro (@con_dct) (And.intro (@con_str) (And.intro (@cutF1) (And.intro (@cutF2) (And.intro (@cutF3) (And.intro (@cutT1) (And.intro (@cutT2) (And.intro (@cutT3) (And.intro (@apC_l) (And.intro (@apD_l) (And.intro (@slt_0) (And.intro (@slt_1) (And.intro (@slt_2) (And.intro (@slt_3) (And.intro (@slt_4) (And.intro (@slt_5) (And.intro (@fSum_0) (And.intro (@fSum_1) (@fSum_2)))))))))))))))))))))))))))))))))))))))))))))))))))))))))))))))))))))))))))))))))))))))))))))))))))))))))))))))))))))))))))))))))))))))))))))))))))))))
def zP1 := And.intro (@rVarV0) (And.intro (@rVarL0) (And.intro (@rVarD0) (And.intro (@rkVarV0) (And.intro (@rkVarO0) (And.intro (@kSN0) (And.intro (@kSON0) (@gNN0)))))))
def zQ1 := And.intro (@conO0) (@putO0)
def zP2 := And.intro (@rVarV1) (And.intro (@rVarL1) (And.intro (@rVarD1) (And.intro (@rkVarV1) (And.intro (@rkVarO1) (And.intro (@kSN1) (And.intro (@kSON1) (And.intro (@gNN1) (@zP1))))))))
def zQ2 := And.intro (@conO1) (And.intro (@putO1) (@zQ1))
def zP3 := And.intro (@rVarV2) (And.intro (@rVarL2) (And.intro (@rVarD2) (And.intro (@rkVarV2) (And.intro (@rkVarO2) (And.intro (@kSN2) (And.intro (@kSON2) (And.intro (@gNN2) (@zP2))))))))
def zQ3 := And.intro (@conO2) (And.intro (@putO2) (@zQ2))
def zP4 := And.intro (@rVarV3) (And.intro (@rVarL3) (And.intro (@rVarD3) (And.intro (@rkVarV3) (And.intro (@rkVarO3) (And.intro (@kSN3) (And.intro (@kSON3) (And.intro (@gNN3) (@zP3))))))))
def zQ4 := And.intro (@conO3) (And.intro (@putO3) (@zQ3))
def zP5 := And.intro (@rVarV4) (And.intro (@rVarL4) (And.intro (@rVarD4) (And.intro (@rkVarV4) (And.intro (@rkVarO4) (And.intro (@kSN4) (And.intro (@kSON4) (And.intro (@gNN4) (@zP4))))))))
def zQ5 := And.intro (@conO4) (And.intro (@putO4) (@zQ4))
def zP6 := And.intro (@rVarV5) (And.intro (@rVarL5) (And.intro (@rVarD5) (And.intro (@rkVarV5) (And.intro (@rkVarO5) (And.intro (@kSN5) (And.intro (@kSON5) (And.intro (@gNN5) (@zP5))))))))
def zQ6 := And.intro (@conO5) (And.intro (@putO5) (@zQ5))
def zP7 := And.intro (@rVarV6) (And.intro (@rVarL6) (And.intro (@rVarD6) (And.intro (@rkVarV6) (And.intro (@rkVarO6) (And.intro (@kSN6) (And.intro (@kSON6) (And.intro (@gNN6) (@zP6))))))))
def zQ7 := And.intro (@conO6) (And.intro (@putO6) (@zQ6))
def zP8 := And.intro (@rVarV7) (And.intro (@rVarL7) (And.intro (@rVarD7) (And.intro (@rkVarV7) (And.intro (@rkVarO7) (And.intro (@kSN7) (And.intro (@kSON7) (And.intro (@gNN7) (@zP7))))))))
def zQ8 := And.intro (@conO7) (And.intro (@putO7) (@zQ7))
def zP9 := And.intro (@rVarV8) (And.intro (@rVarL8) (And.intro (@rVarD8) (And.intro (@rkVarV8) (And.intro (@rkVarO8) (And.intro (@kSN8) (And.intro (@kSON8) (And.intro (@gNN8) (@zP8))))))))
def zQ9 := And.intro (@conO8) (And.intro (@putO8) (@zQ8))
def zP10 := And.intro (@rVarV9) (And.intro (@rVarL9) (And.intro (@rVarD9) (And.intro (@rkVarV9) (And.intro (@rkVarO9) (And.intro (@kSN9) (And.intro (@kSON9) (And.intro (@gNN9) (@zP9))))))))
def zQ10 := And.intro (@conO9) (And.intro (@putO9) (@zQ9))
def zP11 := And.intro (@rVarV10) (And.intro (@rVarL10) (And.intro (@rVarD10) (And.intro (@rkVarV10) (And.intro (@rkVarO10) (And.intro (@kSN10) (And.intro (@kSON10) (And.intro (@gNN10) (@zP10))))))))
def zQ11 := And.intro (@conO10) (And.intro (@putO10) (@zQ10))
def zP12 := And.intro (@rVarV11) (And.intro (@rVarL11) (And.intro (@rVarD11) (And.intro (@rkVarV11) (And.intro (@rkVarO11) (And.intro (@kSN11) (And.intro (@kSON11) (And.intro (@gNN11) (@zP11))))))))
def zQ12 := And.intro (@conO11) (And.intro (@putO11) (@zQ11))
def zP13 := And.intro (@rVarV12) (And.intro (@rVarL12) (And.intro (@rVarD12) (And.intro (@rkVarV12) (And.intro (@rkVarO12) (And.intro (@kSN12) (And.intro (@kSON12) (And.intro (@gNN12) (@zP12))))))))
def zQ13 := And.intro (@conO12) (And.intro (@putO12) (@zQ12))
def zP14 := And.intro (@rVarV13) (And.intro (@rVarL13) (And.intro (@rVarD13) (And.intro (@rkVarV13) (And.intro (@rkVarO13) (And.intro (@kSN13) (And.intro (@kSON13) (And.intro (@gNN13) (@zP13))))))))
def zQ14 := And.intro (@conO13) (And.intro (@putO13) (@zQ13))
def zP15 := And.intro (@rVarV14) (And.intro (@rVarL14) (And.intro (@rVarD14) (And.intro (@rkVarV14) (And.intro (@rkVarO14) (And.intro (@kSN14) (And.intro (@kSON14) (And.intro (@gNN14) (@zP14))))))))
def zQ15 := And.intro (@conO14) (And.intro (@putO14) (@zQ14))
def zP16 := And.intro (@rVarV15) (And.intro (@rVarL15) (And.intro (@rVarD15) (And.intro (@rkVarV15) (And.intro (@rkVarO15) (And.intro (@kSN15) (And.intro (@kSON15) (And.intro (@gNN15) (@zP15))))))))
def zQ16 := And.intro (@conO15) (And.intro (@putO15) (@zQ15))
def zP17 := And.intro (@rVarV16) (And.intro (@rVarL16) (And.intro (@rVarD16) (And.intro (@rkVarV16) (And.intro (@rkVarO16) (And.intro (@kSN16) (And.intro (@kSON16) (And.intro (@gNN16) (@zP16))))))))
def zQ17 := And.intro (@conO16) (And.intro (@putO16) (@zQ16))
def zP18 := And.intro (@rVarV17) (And.intro (@rVarL17) (And.intro (@rVarD17) (And.intro (@rkVarV17) (And.intro (@rkVarO17) (And.intro (@kSN17) (And.intro (@kSON17) (And.intro (@gNN17) (@zP17))))))))
def zQ18 := And.intro (@conO17) (And.intro (@putO17) (@zQ17))
def zP19 := And.intro (@rVarV18) (And.intro (@rVarL18) (And.intro (@rVarD18) (And.intro (@rkVarV18) (And.intro (@rkVarO18) (And.intro (@kSN18) (And.intro (@kSON18) (And.intro (@gNN18) (@zP18))))))))
def zQ19 := And.intro (@conO18) (And.intro (@putO18) (@zQ18))
def zP20 := And.intro (@rVarV19) (And.intro (@rVarL19) (And.intro (@rVarD19) (And.intro (@rkVarV19) (And.intro (@rkVarO19) (And.intro (@kSN19) (And.intro (@kSON19) (And.intro (@gNN19) (@zP19))))))))
def zQ20 := And.intro (@conO19) (And.intro (@putO19) (@zQ19))
def zP21 := And.intro (@rVarV20) (And.intro (@rVarL20) (And.intro (@rVarD20) (And.intro (@rkVarV20) (And.intro (@rkVarO20) (And.intro (@kSN20) (And.intro (@kSON20) (And.intro (@gNN20) (@zP20))))))))
def zQ21 := And.intro (@conO20) (And.intro (@putO20) (@zQ20))
def zP22 := And.intro (@rVarV21) (And.intro (@rVarL21) (And.intro (@rVarD21) (And.intro (@rkVarV21) (And.intro (@rkVarO21) (And.intro (@kSN21) (And.intro (@kSON21) (And.intro (@gNN21) (@zP21))))))))
def zQ22 := And.intro (@conO21) (And.intro (@putO21) (@zQ21))
def zP23 := And.intro (@rVarV22) (And.intro (@rVarL22) (And.intro (@rVarD22) (And.intro (@rkVarV22) (And.intro (@rkVarO22) (And.intro (@kSN22) (And.intro (@kSON22) (And.intro (@gNN22) (@zP22))))))))
def zQ23 := And.intro (@conO22) (And.intro (@putO22) (@zQ22))
def zP24 := And.intro (@rVarV23) (And.intro (@rVarL23) (And.intro (@rVarD23) (And.intro (@rkVarV23) (And.intro (@rkVarO23) (And.intro (@kSN23) (And.intro (@kSON23) (And.intro (@gNN23) (@zP23))))))))
def zQ24 := And.intro (@conO23) (And.intro (@putO23) (@zQ23))
end Pl
set_option Elab.async false
set_option linter.all false
set_option maxRecDepth 100000
set_option maxHeartbeats 4000000
/-! RlW: the words of loops -/
namespace Pl
open PySem PySem.Spec L2
theorem gw_wait : D.good (.str "wait") = true := by decide +kernel
theorem gw_rest : D.good (.str "rest") = true := by decide +kernel
theorem gw_move : D.good (.str "move") = true := by decide +kernel
theorem gw_ahead : D.good (.str "ahead") = true := by decide +kernel
theorem gw_set : D.good (.str "set") = true := by decide +kernel
theorem gw_until : D.good (.str "until") = true := by decide +kernel
theorem gw_up : D.good (.str "up") = true := by decide +kernel
theorem gw_down : D.good (.str "down") = true := by decide +kernel
theorem gw_if : D.good (.str "if") = true := by decide +kernel
theorem gw_late : D.good (.str "late") = true := by decide +kernel
theorem gw_due : D.good (.str "due") = true := by decide +kernel
theorem gw_flag : D.good (.str "flag") = true := by decide +kernel
theorem nw_wait_rest : (("wait" : Str) == "rest") = false := by decide +kernel
theorem nw_wait_move : (("wait" : Str) == "move") = false := by decide +kernel
theorem nw_wait_ahead : (("wait" : Str) == "ahead") = false := by decide +kernel
theorem nw_wait_set : (("wait" : Str) == "set") = false := by decide +kernel
theorem nw_wait_until : (("wait" : Str) == "until") = false := by decide +kernel
theorem nw_wait_up : (("wait" : Str) == "up") = false := by decide +kernel
theorem nw_wait_down : (("wait" : Str) == "down") = false := by decide +kernel
theorem nw_wait_if : (("wait" : Str) == "if") = false := by decide +kernel
theorem nw_wait_late : (("wait" : Str) == "late") = false := by decide +kernel
theorem nw_wait_due : (("wait" : Str) == "due") = false := by decide +kernel
theorem nw_wait_flag : (("wait" : Str) == "flag") = false := by decide +kernel
theorem nw_rest_wait : (("rest" : Str) == "wait") = false := by decide +kernel
theorem nw_rest_move : (("rest" : Str) == "move") = false := by decide +kernel
theorem nw_rest_ahead : (("rest" : Str) == "ahead") = false := by decide +kernel
theorem nw_rest_set : (("rest" : Str) == "set") = false := by decide +kernel
theorem nw_rest_until : (("rest" : Str) == "until") = false := by decide +kernel
theorem nw_rest_up : (("rest" : Str) == "up") = false := by decide +kernel
theorem nw_rest_down : (("rest" : Str) == "down") = false := by decide +kernel
theorem nw_rest_if : (("rest" : Str) == "if") = false := by decide +kernel
theorem nw_rest_late : (("rest" : Str) == "late") = false := by decide +kernel
theorem nw_rest_due : (("rest" : Str) == "due") = false := by decide +kernel
theorem nw_rest_flag : (("rest" : Str) == "flag") = false := by decide +kernel
theorem nw_move_wait : (("move" : Str) == "wait") = false := by decide +kernel
theorem nw_move_rest : (("move" : Str) == "rest") = false := by decide +kernel
theorem nw_move_ahead : (("move" : Str) == "ahead") = false := by decide +kernel
theorem nw_move_set : (("move" : Str) == "set") = false := by decide +kernel
theorem nw_move_until : (("move" : Str) == "until") = false := by decide +kernel
theorem nw_move_up : (("move" : Str) == "up") = false := by decide +kernel
theorem nw_move_down : (("move" : Str) == "down") = false := by decide +kernel
theorem nw_move_if : (("move" : Str) == "if") = false := by decide +kernel
theorem nw_move_late : (("move" : Str) == "late") = false := by decide +kernel
theorem nw_move_due : (("move" : Str) == "due") = false := by decide +kernel
theorem nw_move_flag : (("move" : Str) == "flag") = false := by decide +kernel
theorem nw_ahead_wait : (("ahead" : Str) == "wait") = false := by decide +kernel
theorem nw_ahead_rest : (("ahead" : Str) == "rest") = false := by decide +kernel
theorem nw_ahead_move : (("ahead" : Str) == "move") = false := by decide +kernel
theorem nw_ahead_set : (("ahead" : Str) == "set") = false := by decide +kernel
theorem nw_ahead_until : (("ahead" : Str) == "until") = false := by decide +kernel
theorem nw_ahead_up : (("ahead" : Str) == "up") = false := by decide +kernel
theorem nw_ahead_down : (("ahead" : Str) == "down") = false := by decide +kernel
theorem nw_ahead_if : (("ahead" : Str) == "if") = false := by decide +kernel
theorem nw_ahead_late : (("ahead" : Str) == "late") = false := by decide +kernel
theorem nw_ahead_due : (("ahead" : Str) == "due") = false := by decide +kernel
theorem nw_ahead_flag : (("ahead" : Str) == "flag") = false := by decide +kernel
theorem nw_set_wait : (("set" : Str) == "wait") = false := by decide +kernel
theorem nw_set_rest : (("set" : Str) == "rest") = false := by decide +kernel
theorem nw_set_move : (("set" : Str) == "move") = false := by decide +kernel
theorem nw_set_ahead : (("set" : Str) == "ahead") = false := by decide +kernel
theorem nw_set_until : (("set" : Str) == "until") = false := by decide +kernel
theorem nw_set_up : (("set" : Str) == "up") = false := by decide +kernel
theorem nw_set_down : (("set" : Str) == "down") = false := by decide +kernel
theorem nw_set_if : (("set" : Str) == "if") = false := by decide +kernel
theorem nw_set_late : (("set" : Str) == "late") = false := by decide +kernel
theorem nw_set_due : (("set" : Str) == "due") = false := by decide +kernel
theorem nw_set_flag : (("set" : Str) == "flag") = false := by decide +kernel
theorem nw_until_wait : (("until" : Str) == "wait") = false := by decide +kernel
theorem nw_until_rest : (("until" : Str) == "rest") = false := by decide +kernel
theorem nw_until_move : (("until" : Str) == "move") = false := by decide +kernel
theorem nw_until_ahead : (("until" : Str) == "ahead") = false := by decide +kernel
theorem nw_until_set : (("until" : Str) == "set") = false := by decide +kernel
theorem nw_until_up : (("until" : Str) == "up") = false := by decide +kernel
theorem nw_until_down : (("until" : Str) == "down") = false := by decide +kernel
theorem nw_until_if : (("until" : Str) == "if") = false := by decide +kernel
theorem nw_until_late : (("until" : Str) == "late") = false := by decide +kernel
theorem nw_until_due : (("until" : Str) == "due") = false := by decide +kernel
theorem nw_until_flag : (("until" : Str) == "flag") = false := by decide +kernel
theorem nw_up_wait : (("up" : Str) == "wait") = false := by decide +kernel
theorem nw_up_rest : (("up" : Str) == "rest") = false := by decide +kernel
theorem nw_up_move : (("up" : Str) == "move") = false := by decide +kernel
theorem nw_up_ahead : (("up" : Str) == "ahead") = false := by decide +kernel
theorem nw_up_set : (("up" : Str) == "set") = false := by decide +kernel
theorem nw_up_until : (("up" : Str) == "until") = false := by decide +kernel
theorem nw_up_down : (("up" : Str) == "down") = false := by decide +kernel
theorem nw_up_if : (("up" : Str) == "if") = false := by decide +kernel
theorem nw_up_late : (("up" : Str) == "late") = false := by decide +kernel
theorem nw_up_due : (("up" : Str) == "due") = false := by decide +kernel
theorem nw_up_flag : (("up" : Str) == "flag") = false := by decide +kernel
theorem nw_down_wait : (("down" : Str) == "wait") = false := by decide +kernel
theorem nw_down_rest : (("down" : Str) == "rest") = false := by decide +kernel
theorem nw_down_move : (("down" : Str) == "move") = false := by decide +kernel
theorem nw_down_ahead : (("down" : Str) == "ahead") = false := by decide +kernel
theorem nw_down_set : (("down" : Str) == "set") = false := by decide +kernel
theorem nw_down_until : (("down" : Str) == "until") = false := by decide +kernel
theorem nw_down_up : (("down" : Str) == "up") = false := by decide +kernel
theorem nw_down_if : (("down" : Str) == "if") = false := by decide +kernel
theorem nw_down_late : (("down" : Str) == "late") = false := by decide +kernel
theorem nw_down_due : (("down" : Str) == "due") = false := by decide +kernel
theorem nw_down_flag : (("down" : Str) == "flag") = false := by decide +kernel
theorem nw_if_wait : (("if" : Str) == "wait") = false := by decide +kernel
theorem nw_if_rest : (("if" : Str) == "rest") = false := by decide +kernel
theorem nw_if_move : (("if" : Str) == "move") = false := by decide +kernel
theorem nw_if_ahead : (("if" : Str) == "ahead") = false := by decide +kernel
theorem nw_if_set : (("if" : Str) == "set") = false := by decide +kernel
theorem nw_if_until : (("if" : Str) == "until") = false := by decide +kernel
theorem nw_if_up : (("if" : Str) == "up") = false := by decide +kernel
theorem nw_if_down : (("if" : Str) == "down") = false := by decide +kernel
theorem nw_if_late : (("if" : Str) == "late") = false := by decide +kernel
theorem nw_if_due : (("if" : Str) == "due") = false := by decide +kernel
theorem nw_if_flag : (("if" : Str) == "flag") = false := by decide +kernel
theorem nw_late_wait : (("late" : Str) == "wait") = false := by decide +kernel
theorem nw_late_rest : (("late" : Str) == "rest") = false := by decide +kernel
theorem nw_late_move : (("late" : Str) == "move") = false := by decide +kernel
theorem nw_late_ahead : (("late" : Str) == "ahead") = false := by decide +kernel
theorem nw_late_set : (("late" : Str) == "set") = false := by decide +kernel
theorem nw_late_until : (("late" : Str) == "until") = false := by decide +kernel
theorem nw_late_up : (("late" : Str) == "up") = false := by decide +kernel
theorem nw_late_down : (("late" : Str) == "down") = false := by decide +kernel
theorem nw_late_if : (("late" : Str) == "if") = false := by decide +kernel
theorem nw_late_due : (("late" : Str) == "due") = false := by decide +kernel
theorem nw_late_flag : (("late" : Str) == "flag") = false := by decide +kernel
theorem nw_due_wait : (("due" : Str) == "wait") = false := by decide +kernel
theorem nw_due_rest : (("due" : Str) == "rest") = false := by decide +kernel
theorem nw_due_move : (("due" : Str) == "move") = false := by decide +kernel
theorem nw_due_ahead : (("due" : Str) == "ahead") = false := by decide +kernel
theorem nw_due_set : (("due" : Str) == "set") = false := by decide +kernel
theorem nw_due_until : (("due" : Str) == "until") = false := by decide +kernel
theorem nw_due_up : (("due" : Str) == "up") = false := by decide +kernel
theorem nw_due_down : (("due" : Str) == "down") = false := by decide +kernel
theorem nw_due_if : (("due" : Str) == "if") = false := by decide +kernel
theorem nw_due_late : (("due" : Str) == "late") = false := by decide +kernel
theorem nw_due_flag : (("due" : Str) == "flag") = false := by decide +kernel
theorem nw_flag_wait : (("flag" : Str) == "wait") = false := by decide +kernel
theorem nw_flag_rest : (("flag" : Str) == "rest") = false := by decide +kernel
theorem nw_flag_move : (("flag" : Str) == "move") = false := by decide +kernel
theorem nw_flag_ahead : (("flag" : Str) == "ahead") = false := by decide +kernel
theorem nw_flag_set : (("flag" : Str) == "set") = false := by decide +kernel
theorem nw_flag_until : (("flag" : Str) == "until") = false := by decide +kernel
theorem nw_flag_up : (("flag" : Str) == "up") = false := by decide +kernel
theorem nw_flag_down : (("flag" : Str) == "down") = false := by decide +kernel
theorem nw_flag_if : (("flag" : Str) == "if") = false := by decide +kernel
theorem nw_flag_late : (("flag" : Str) == "late") = false := by decide +kernel
theorem nw_flag_due : (("flag" : Str) == "due") = false := by decide +kernel
theorem gc_0 : D.good (.tup [.str "up", .str "down"]) = true := by decide +kernel
theorem gc_1 : D.good (.tup [.str "until", .str "ahead"]) = true := by decide +kernel
theorem gc_2 : D.good (.tup [.str "late", .str "due"]) = true := by decide +kernel
theorem gc_3 : D.good (.tup [.str "wait", .str "rest", .str "move"]) = true := by decide +kernel
theorem gc_4 : D.good (.tup [.str "work", .str "mark"]) = true := by decide +kernel
theorem gc_5 : D.good (.tup [.str "else", .str "end"]) = true := by decide +kernel
theorem gc_6 : D.good (.tup [.tup [.str "due"], .tup [.str "flag"]]) = true := by decide +kernel
theorem gc_7 : D.good (.tup [.tup [.str "until"], .tup [.str "up"], .tup [.str "down"]]) = true := by decide +kernel
theorem gc_8 : D.good (.tup [.str "wait", .str "rest", .str "move", .str "ahead", .str "set"]) = true := by decide +kernel
theorem gc_9 : D.good (.tup [.str "late"]) = true := by decide +kernel
def zzW := And.intro (@gc_0) (And.intro (@gc_1) (And.intro (@gc_2) (And.intro (@gc_3) (And.intro (@gc_4) (And.intro (@gc_5) (And.intro (@gc_6) (And.intro (@gc_7) (And.intro (@gc_8) (And.intro (@gc_9) (And.intro (@gw_wait) (And.intro (@gw_rest) (And.intro (@gw_move) (And.intro (@gw_ahead) (And.intro (@gw_set) (And.intro (@gw_until) (And.intro (@gw_up) (And.intro (@gw_down) (And.intro (@gw_if) (And.intro (@gw_late) (And.intro (@gw_due) (And.intro (@gw_flag) (And.intro (@nw_wait_rest) (And.intro (@nw_wait_move) (And.intro (@nw_wait_ahead) (And.intro (@nw_wait_set) (And.intro (@nw_wait_until) (And.intro (@nw_wait_up) (And.intro (@nw_wait_down) (And.intro (@nw_wait_if) (And.intro (@nw_wait_late) (And.intro (@nw_wait_due) (And.intro (@nw_wait_flag) (And.intro (@nw_rest_wait) (And.intro (@nw_rest_move) (And.intro (@nw_rest_ahead) (And.intro (@nw_rest_set) (And.intro (@nw_rest_until) (And.intro (@nw_rest_up) (And.intro (@nw_rest_down) (And.intro (@nw_rest_if) (And.intro (@nw_rest_late) (And.intro (@nw_rest_due) (And.intro (@nw_rest_flag) (And.intro (@nw_move_wait) (And.intro (@nw_move_rest) (And.intro (@nw_move_ahead) (And.intro (@nw_move_set) (And.intro (@nw_move_until) (And.intro (@nw_move_up) (And.intro (@nw_move_down) (And.intro (@nw_move_if) (And.intro (@nw_move_late) (And.intro (@nw_move_due) (And.intro (@nw_move_flag) (And.intro (@nw_ahead_wait) (And.intro (@nw_ahead_rest) (And.intro (@nw_ahead_move) (And.intro (@nw_ahead_set) (And.intro (@nw_ahead_until) (And.intro (@nw_ahead_up) (And.intro (@nw_ahead_down) (And.intro (@nw_ahead_if) (And.intro (@nw_ahead_late) (And.intro (@nw_ahead_due) (And.intro (@nw_ahead_flag) (And.intro (@nw_set_wait) (And.intro (@nw_set_rest) (And.intro (@nw_set_move) (And.intro (@nw_set_ahead) (And.intro (@nw_set_until) (And.intro (@nw_set_up) (And.intro (@nw_set_down) (And.intro (@nw_set_if) (And.intro (@nw_set_late) (And.intro (@nw_set_due) (And.intro (@nw_set_flag) (And.intro (@nw_until_wait) (And.intro (@nw_until_rest) (And.intro (@nw_until_move) (And.intro (@nw_until_ahead) (And.intro (@nw_until_set) (And.intro (@nw_until_up) (And.intro (@nw_until_down) (And.intro (@nw_until_if) (And.intro (@nw_until_late) (And.intro (@nw_until_due) (And.intro (@nw_until_flag) (And.intro (@nw_up_wait) (And.intro (@nw_up_rest) (And.intro (@nw_up_move) (And.intro (@nw_up_ahead) (And.intro (@nw_up_set) (And.intro (@nw_up_until) (And.intro (@nw_up_down) (And.intro (@nw_up_if) (And.intro (@nw_up_late) (And.intro (@nw_up_due) (And.intro (@nw_up_flag) (And.intro (@nw_down_wait) (And.intro (@nw_down_rest) (And.intro (@nw_down_move) (And.intro (@nw_down_ahead) (And.intro (@nw_down_set) (And.intro (@nw_down_until) (And.intro (@nw_down_up) (And.intro (@nw_down_if) (And.intro (@nw_down_late) (And.intro (@nw_down_due) (And.intro (@nw_down_flag) (And.intro (@nw_if_wait) (And.intro (@nw_if_rest) (And.intro (@nw_if_move) (And.intro (@nw_if_ahead) (And.intro (@nw_if_set) (And.intro (@nw_if_until) (And.intro (@nw_if_up) (And.intro (@nw_if_down) (And.intro (@nw_if_late) (And.intro (@nw_if_due) (And.intro (@nw_if_flag) (And.intro (@nw_late_wait) (And.intro (@nw_late_rest) (And.intro (@nw_late_move) (And.intro (@nw_late_ahead) (And.intro (@nw_late_set) (And.intro (@nw_late_until) (And.intro (@nw_late_up) (And.intro (@nw_late_down) (And.intro (@nw_late_if) (And.intro (@nw_late_due) (And.intro (@nw_late_flag) (And.intro (@nw_due_wait) (And.intro (@nw_due_rest) (And.intro (@nw_due_move) (And.intro (@nw_due_ahead) (And.intro (@nw_due_set) (And.intro (@nw_due_until) (And.intro (@nw_due_up) (And.intro (@nw_due_down) (And.intro (@nw_due_if) (And.intro (@nw_due_late) (And.intro (@nw_due_flag) (And.intro (@nw_flag_wait) (And.intro (@nw_flag_rest) (And.intro (@nw_flag_move) (And.intro (@nw_flag_ahead) (And.intro (@nw_flag_set) (And.intro (@nw_flag_until) (And.intro (@nw_flag_up) (And.intro (@nw_flag_down) (And.intro (@nw_flag_if) (And.intro (@nw_flag_late) (@nw_flag_due)))))))))))))))))))))))))))))))))))))))))))))))))))))))))))))))))))))))))))))))))))))))))))))))))))))))))))))))))))))))))))))))))))))))))))))))))))))))))
end Pl
set_option Elab.async false
set_option linter.all false
set_option maxRecDepth 100000
set_option maxHeartbeats 4000000
/-! PlN: shared own objects that are no longer changed, or no longer wanted -/
namespace Pl
open PySem PySem.Spec L2
def dropW (W : Wt) (a : Addr) : Wt := fun b => if b = a then none else W b
def pFrzW (te : PTE) : PTE := fun S Q E => te S (fun d S1 => ∃ a xs, d = .adr a ∧ S1.W a = some (.lst xs) ∧ Q (.lst xs) ⟨S1.ρ, dropW S1.W a⟩) E
/-- what stands when an own object of W is frozen -/
theorem Rel.frozenW {K : PySem.W.Frag} {H : Hp} {σ : St} {S : Sta} {a : Addr} {o : Own} {u : HO} {ob : Obj} (r : Rel K H σ S) (e : S.W a = some o) (hu : H a = some u) :
    Nx σ S H σ ⟨S.ρ, dropW S.W a⟩ (upd H a (.frz ob u)) ∧ Rel K (upd H a (.frz ob u)) σ ⟨S.ρ, dropW S.W a⟩ := by
  have wa : Oa σ S a := .inr (by rw [e]; exact fun z => nomatch z)
  obtain ⟨u', e', np, _⟩ := r.known wa
  have st : ∀ {A : Addr → Prop}, A a → Step A H (upd H a (.frz ob u)) := fun {A} ha b w eb q => by
    by_cases hb : b = a
    · subst hb
      rw [hu] at e' eb; cases e'; cases eb
      rcases q with q | q
      · exact absurd q np
      · exact absurd ha q
    · rw [upd_ne hb]; exact eb
  have sa := st (A := fun x => x = a) rfl
  refine ⟨⟨st wa, fun b h => ?_, fun x h => ?_⟩, ⟨r.len, fun i s es => ?_, r.inj, fun b o' h => ?_, fun i b h => ?_⟩⟩
  · by_cases hb : b = a
    · subst hb; rw [upd_same] at h; cases h
    · rw [upd_ne hb] at h; exact h
  · rcases h with h | h
    · exact .inl (.inl h)
    · refine .inl (.inr fun z => h ?_)
      show (if x = a then none else S.W x) = none
      rw [z]; split <;> rfl
  · have q := r.slot i s es
    cases s with
    | emp => trivial
    | val d => obtain ⟨v, h1, h2⟩ := q; exact ⟨v, h1, h2.step sa⟩
    | own o' =>
      obtain ⟨b, h1, h2⟩ := q
      refine ⟨b, h1, h2.step sa fun z => ?_⟩
      have z' : b = a := z
      subst z'
      have := r.dis i b ⟨⟨o', es⟩, h1⟩
      rw [this] at e; cases e
  · have h' : (if b = a then none else S.W b) = some o' := h
    by_cases hb : b = a
    · rw [if_pos hb] at h'; cases h'
    · rw [if_neg hb] at h'
      exact (r.wor b o' h').step sa hb
  · show (if b = a then none else S.W b) = none
    rw [r.dis i b h]; split <;> rfl
section
variable {X : Cx} {e : Expr} {te : PTE}
theorem pm_frzW (h : PM X e te) : PM X e (pFrzW te) := fun W tk => weakE (pe_frz (h W tk)) fun σ H Q => by
  rintro ⟨S, Q', E', rel, q, up, ux⟩
  refine ⟨S, _, E', rel, q, fun v d H1 S1 n1 r1 p1 q1 => ?_, ux⟩
  obtain ⟨a, xs, rfl, hw, q1⟩ := q1
  cases p1
  obtain ⟨ys, h1, h2⟩ := r1.wor a _ hw
  refine .inr ⟨a, _, rfl, h1, .inl ⟨_, rfl⟩, fun o => ?_⟩
  obtain ⟨n2, r2⟩ := r1.frozenW (ob := o) hw h1
  refine up _ _ _ _ (n1.trans n2) r2 (.lst (.inl ⟨o, upd_same⟩) (h2.step (A := fun x => x = a) fun b w eb q => ?_)) q1
  by_cases hb : b = a
  · subst hb
    rw [h1] at eb; cases eb
    rcases q with q | q
    · exact q.elim
    · exact absurd rfl q
  · rw [upd_ne hb]; exact eb
/-- shared objects that nobody wants any more -/
def pFgt (te : PTE) : PTE := fun S Q E => te S (fun d S1 => ∃ W2 : Wt, (∀ b o, W2 b = some o → S1.W b = some o) ∧ Q d ⟨S1.ρ, W2⟩) E
theorem pm_fgt (h : PM X e te) : PM X e (pFgt te) := fun W tk => weakE (h W tk) fun σ H Q => by
  rintro ⟨S, Q', E', rel, q, up, ux⟩
  refine ⟨S, _, E', rel, q, fun v d H1 S1 n1 r1 p1 q1 => ?_, ux⟩
  obtain ⟨W2, hw, q1⟩ := q1
  have no : ∀ b, S1.W b = none → W2 b = none := fun b z => by
    cases e : W2 b with
    | none => rfl
    | some o => rw [hw b o e] at z; cases z
  refine up v d H1 ⟨S1.ρ, W2⟩ ⟨n1.st, n1.kn, fun x h => ?_⟩ ⟨r1.len, r1.slot, r1.inj, fun b o h => r1.wor b o (hw b o h), fun i b h => no b (r1.dis i b h)⟩ p1 q1
  rcases h with h | h
  · exact n1.oa x (.inl h)
  · exact n1.oa x (.inr fun z => h (no x z))
end
/-! ### functions by choice -/
open Classical in
noncomputable def SC {α : Type} (enc : α → List D) (ok : α → Prop) (res : α → Wt → Out) : RFn := fun ds W => if h : ∃ a, ds = enc a ∧ ok a then res h.choose W else .bad
theorem SC_eq {α : Type} {enc : α → List D} {ok : α → Prop} {res : α → Wt → Out} {a : α} {W : Wt} (hi : ∀ b, enc a = enc b → ok b → res b W = res a W) (h : ok a) : SC enc ok res (enc a) W = res a W := by
  unfold SC
  have hx : ∃ b, enc a = enc b ∧ ok b := ⟨a, rfl, h⟩
  rw [dif_pos hx]
  exact hi _ hx.choose_spec.1 hx.choose_spec.2
theorem SC_wk {α : Type} {enc : α → List D} {ok : α → Prop} {res : α → Wt → Out} {φ : PFn} (h : ∀ a W Q E, ok a → (match res a W with | .rt d W' => Q d W' | .ex x W' => E x W' | .bad => False) → φ (enc a) W Q E) : ∀ ds W Q E, φR (SC enc ok res) ds W Q E → φ ds W Q E := fun ds W Q E q => by
  by_cases hx : ∃ a, ds = enc a ∧ ok a
  · have e : SC enc ok res ds W = res hx.choose W := by unfold SC; rw [dif_pos hx]
    have := h hx.choose W Q E hx.choose_spec.2 (by
      unfold φR at q
      rw [e] at q
      exact q)
    rw [← hx.choose_spec.1] at this
    exact this
  · have e : SC enc ok res ds W = .bad := by unfold SC; rw [dif_neg hx]
    unfold φR at q
    rw [e] at q
    exact q.elim
end Pl
set_option Elab.async false
set_option linter.all false
set_option maxRecDepth 100000
set_option maxHeartbeats 4000000
/-! Kt: loops as typed data, and their images -/
namespace Kt
open PySem PySem.Spec L2 Pl
inductive Tst where
  | due | flag | late (n : Int)
  deriving DecidableEq
inductive Stm where
  | wait (n : Int) | rest (n : Int) | move (n : Int) | ahead (n : Int) | set (n : Int) | «until» | up | down
  | ite (t : Tst) (a b : List Stm)
structure Loop where
  least : Int
  most : Int
  first : Int
  body : List Stm
def encT : Tst → D
  | .due => .tup [.str "due"]
  | .flag => .tup [.str "flag"]
  | .late n => .tup [.str "late", .int n]
mutual
def encS : Stm → D
  | .wait n => .tup [.str "wait", .int n]
  | .rest n => .tup [.str "rest", .int n]
  | .move n => .tup [.str "move", .int n]
  | .ahead n => .tup [.str "ahead", .int n]
  | .set n => .tup [.str "set", .int n]
  | .until => .tup [.str "until"]
  | .up => .tup [.str "up"]
  | .down => .tup [.str "down"]
  | .ite t a b => .tup [.str "if", encT t, .tup (encSs a), .tup (encSs b)]
def encSs : List Stm → List D
  | [] => []
  | s :: r => encS s :: encSs r
end
theorem encSs_map (b : List Stm) : encSs b = b.map encS := by
  induction b with
  | nil => rfl
  | cons s r ih => simp only [encSs, List.map_cons, ih]
def encB (b : List Stm) : D := .tup (encSs b)
def encL (l : Loop) : D := .tup [.int l.least, .int l.most, .int l.first, encB l.body]
/-- numbers that are let -/
def inR (a b n : Int) : Bool := decide (a ≤ n) && decide (n ≤ b)
def okT : Tst → Bool
  | .late n => inR 0 8 n
  | _ => true
def okS : Nat → Stm → Bool
  | 0, _ => false
  | d + 1, s => match s with
    | .wait n => inR 1 8 n
    | .rest n => inR 1 8 n
    | .move n => inR 1 8 n
    | .ahead n => inR 1 8 n
    | .set n => inR 0 8 n
    | .until => true
    | .up => true
    | .down => true
    | .ite t a b => okT t && ((decide (a.length ≤ 8) && a.all (okS d)) && (decide (b.length ≤ 8) && b.all (okS d)))
def okB (d : Nat) (b : List Stm) : Bool := decide (b.length ≤ 8) && b.all (okS d)
/- all statements, in the order in which they are written -/
mutual
def listedS : Stm → List Stm
  | .wait n => [.wait n]
  | .rest n => [.rest n]
  | .move n => [.move n]
  | .ahead n => [.ahead n]
  | .set n => [.set n]
  | .until => [.until]
  | .up => [.up]
  | .down => [.down]
  | .ite t a b => .ite t a b :: (listedB a ++ listedB b)
def listedB : List Stm → List Stm
  | [] => []
  | s :: r => listedS s ++ listedB r
end
def okL (l : Loop) : Bool := inR 0 8 l.least && inR 0 8 l.most && inR 0 8 l.first && decide (l.least ≤ l.most) && okB 3 l.body && decide ((listedB l.body).length ≤ 12)
def wordS : Stm → Str
  | .wait _ => "wait"
  | .rest _ => "rest"
  | .move _ => "move"
  | .ahead _ => "ahead"
  | .set _ => "set"
  | .until => "until"
  | .up => "up"
  | .down => "down"
  | .ite _ _ _ => "if"
/-! ### images are good -/
theorem gd_T : ∀ t : Tst, D.gd 1 (encT t) = true
  | .due => by decide +kernel
  | .flag => by decide +kernel
  | .late n => by
    have h : D.gd 0 (.str "late") = true := by decide +kernel
    rw [encT, gd_tup]; simp only [List.all_cons, List.all_nil, h, Bool.true_and, Bool.and_true]; rfl
theorem okS_succ : ∀ (d : Nat) (s : Stm), okS d s = true → D.gd (2 * d + 1) (encS s) = true
  | 0, s, h => by simp [okS] at h
  | d + 1, s, h => by
    have num : ∀ (x : Str) (n : Int), D.gd 0 (.str x) = true → D.gd (2 * (d + 1) + 1) (.tup [.str x, .int n]) = true := fun x n hx => by
      rw [gd_tup]
      simp only [List.all_cons, List.all_nil, gd_mono hx (Nat.zero_le _), Bool.true_and, Bool.and_true]
      exact gd_mono (n := 0) rfl (Nat.zero_le _)
    have one : ∀ (x : Str), D.gd 0 (.str x) = true → D.gd (2 * (d + 1) + 1) (.tup [.str x]) = true := fun x hx => by
      rw [gd_tup]
      simp only [List.all_cons, List.all_nil, gd_mono hx (Nat.zero_le _), Bool.true_and, Bool.and_true]
    cases s with
    | wait n => exact num _ n (by decide +kernel)
    | rest n => exact num _ n (by decide +kernel)
    | move n => exact num _ n (by decide +kernel)
    | ahead n => exact num _ n (by decide +kernel)
    | set n => exact num _ n (by decide +kernel)
    | «until» => exact one _ (by decide +kernel)
    | up => exact one _ (by decide +kernel)
    | down => exact one _ (by decide +kernel)
    | ite t a b =>
      simp only [okS, Bool.and_eq_true, List.all_eq_true] at h
      obtain ⟨h1, ⟨_, h2⟩, ⟨_, h3⟩⟩ := h
      have bod : ∀ a : List Stm, (∀ x ∈ a, okS d x = true) → D.gd (2 * (d + 1)) (.tup (encSs a)) = true := fun a h => by
        show D.gd ((2 * d + 1) + 1) (.tup (encSs a)) = true
        rw [gd_tup, encSs_map, List.all_map, List.all_eq_true]
        exact fun x hx => okS_succ d x (h x hx)
      have hi : D.gd 0 (.str "if") = true := by decide +kernel
      rw [encS, gd_tup]
      simp only [List.all_cons, List.all_nil, gd_mono hi (Nat.zero_le _), gd_mono (gd_T t) (show 1 ≤ 2 * (d + 1) by omega), bod a h2, bod b h3, Bool.true_and, Bool.and_true]
theorem gd_B {d : Nat} {b : List Stm} (h : okB d b = true) : D.gd (2 * d + 2) (encB b) = true := by
  simp only [okB, Bool.and_eq_true, List.all_eq_true] at h
  show D.gd ((2 * d + 1) + 1) (.tup (encSs b)) = true
  rw [gd_tup, encSs_map, List.all_map, List.all_eq_true]
  exact fun x hx => okS_succ d x (h.2 x hx)
theorem good_S {d : Nat} {s : Stm} (h : okS d s = true) (hd : d ≤ 20 := by decide) : (encS s).good = true := by
  have := okS_succ d s h
  exact gd_good (gd_mono this (show 2 * d + 1 ≤ 60 by omega)) (Nat.le_refl _)
theorem good_B {d : Nat} {b : List Stm} (h : okB d b = true) (hd : d ≤ 20 := by decide) : (encB b).good = true := gd_good (gd_mono (gd_B h) (show 2 * d + 2 ≤ 60 by omega)) (Nat.le_refl _)
theorem gd_L {l : Loop} (h : okL l = true) : D.gd 9 (encL l) = true := by
  simp only [okL, Bool.and_eq_true] at h
  have hb := gd_B h.1.2
  have hi : ∀ n : Int, D.gd 8 (.int n) = true := fun n => gd_mono (n := 0) rfl (Nat.zero_le _)
  rw [encL, gd_tup]
  simp only [List.all_cons, List.all_nil, hi, hb, Bool.true_and, Bool.and_true]
theorem good_L {l : Loop} (h : okL l = true) : (encL l).good = true := gd_good (gd_L h)
end Kt
set_option Elab.async false
set_option linter.all false
set_option maxRecDepth 100000
set_option maxHeartbeats 4000000
/-! KtV: what the checks of the library tell of any value, and what that says of loops as typed data -/
namespace Kt
open PySem PySem.Spec L2 Pl
def isNum (v : D) (a b : Int) : Bool := match v with
  | .int i => decide (a ≤ i) && decide (i ≤ b)
  | _ => false
def φ_is_number : PFn := fun ds W Q _ => ∃ v a b, ds = [v, .int a, .int b] ∧ v.dat = true ∧ Q (.bl (isNum v a b)) W
def tab_LEAST_NUMBERS : List (Str × D) := [("wait", .int 1), ("rest", .int 1), ("move", .int 1), ("ahead", .int 1), ("set", .int 0), ("late", .int 0)]
/-- the words that have numbers -/
def leastOf (x : Str) : Option Int := if x = "set" ∨ x = "late" then some 0 else if x = "wait" ∨ x = "rest" ∨ x = "move" ∨ x = "ahead" then some 1 else none
theorem tab_least {x : Str} {n : Int} (h : leastOf x = some n) : tab_LEAST_NUMBERS.lookup x = some (.int n) := by
  unfold leastOf at h
  split at h
  · rename_i e
    cases h
    rcases e with rfl | rfl <;> rfl
  · split at h
    · rename_i e
      cases h
      rcases e with rfl | rfl | rfl | rfl <;> rfl
    · cases h
/-- a pair of one of some words and a number -/
def isCounted (x : Str) (r : List D) (ws : List Str) : Bool := match r with
  | [v] => ws.contains x && isNum v ((leastOf x).getD 0) 8
  | _ => false
def φ_is_counted : PFn := fun ds W Q _ => ∃ x r ws, ds = [.tup (.str x :: r), .tup (ws.map .str)] ∧ D.good (.tup (.str x :: r)) = true ∧ D.good (.tup (ws.map .str)) = true ∧ (∀ y ∈ ws, (leastOf y).isSome = true) ∧ Q (.bl (isCounted x r ws)) W
theorem any_words (ws : List Str) (x : Str) : ((ws.map D.str).any fun z => eqD z (.str x)) = ws.contains x := by
  induction ws with
  | nil => rfl
  | cons y r ih =>
    rw [List.map_cons, List.any_cons, List.contains_cons, ih, eqD_str]
    congr 1
    rw [Bool.eq_iff_iff, beq_iff_eq, beq_iff_eq]
    exact eq_comm
def isWorded (v : D) : Bool := match v with
  | .tup (.str _ :: _) => true
  | _ => false
def φ_is_worded : PFn := fun ds W Q _ => ∃ v, ds = [v] ∧ v.good = true ∧ Q (.bl (isWorded v)) W
def isTest (v : D) : Bool := match v with
  | .tup [.str x] => x == "due" || x == "flag"
  | .tup [.str x, n] => x == "late" && isNum n 0 8
  | _ => false
theorem isTest_worded {v : D} (h : isWorded v = false) : isTest v = false := by
  unfold isTest
  split
  · simp [isWorded] at h
  · simp [isWorded] at h
  · rfl
def φ_is_test : PFn := fun ds W Q _ => ∃ v, ds = [v] ∧ v.good = true ∧ Q (.bl (isTest v)) W
def bodW (f : D → Bool) (v : D) : Bool := match v with
  | .tup xs => decide (xs.length ≤ 8) && xs.all f
  | _ => false
def isStm : Nat → D → Bool
  | 0, _ => false
  | d + 1, v => match v with
    | .tup (.str x :: r) =>
      if x = "if" then match r with
        | [t, a, b] => isTest t && (bodW (isStm d) a && bodW (isStm d) b)
        | _ => false
      else if (r.isEmpty && (x == "until" || (x == "up" || x == "down"))) = true then true else isCounted x r ["wait", "rest", "move", "ahead", "set"]
    | _ => false
def isBod (d : Nat) (v : D) : Bool := bodW (isStm d) v
def φ_is_statement (d : Nat) : PFn := fun ds W Q _ => ∃ v, ds = [v, .int d] ∧ v.good = true ∧ Q (.bl (isStm d v)) W
def φ_is_body (d : Nat) : PFn := fun ds W Q _ => ∃ v, ds = [v, .int d] ∧ v.good = true ∧ Q (.bl (isBod d v)) W
def φ_is_body' : Nat → PFn
  | 0 => fun _ _ _ _ => False
  | d + 1 => φ_is_body d
theorem isStm_worded {d : Nat} {v : D} (h : isWorded v = false) : isStm d v = false := by
  cases d with
  | zero => rfl
  | succ d =>
    unfold isStm
    split
    · simp [isWorded] at h
    · rfl
/-! ### images -/
theorem isNum_iff {v : D} {a b : Int} : isNum v a b = true ↔ ∃ n, inR a b n = true ∧ v = .int n := by
  unfold isNum inR
  constructor
  · intro h
    split at h
    · exact ⟨_, h, rfl⟩
    · cases h
  · rintro ⟨n, h, rfl⟩
    exact h
theorem isTest_iff {v : D} : isTest v = true ↔ ∃ t, okT t = true ∧ v = encT t := by
  constructor
  · intro h
    unfold isTest at h
    split at h
    · rename_i x
      simp only [Bool.or_eq_true, beq_iff_eq] at h
      rcases h with rfl | rfl
      · exact ⟨.due, rfl, rfl⟩
      · exact ⟨.flag, rfl, rfl⟩
    · rename_i x n
      simp only [Bool.and_eq_true, beq_iff_eq] at h
      obtain ⟨rfl, h⟩ := h
      obtain ⟨n, h, rfl⟩ := isNum_iff.mp h
      exact ⟨.late n, h, rfl⟩
    · cases h
  · rintro ⟨t, h, rfl⟩
    cases t with
    | due => rfl
    | flag => rfl
    | late n => simpa [encT, isTest] using isNum_iff.mpr ⟨n, h, rfl⟩
theorem all_iff_map {f : D → Bool} {p : Stm → Bool} {e : Stm → D} (h : ∀ v, f v = true ↔ ∃ s, p s = true ∧ v = e s) : ∀ xs : List D, xs.all f = true ↔ ∃ b : List Stm, b.all p = true ∧ xs = b.map e
  | [] => ⟨fun _ => ⟨[], rfl, rfl⟩, fun _ => rfl⟩
  | x :: r => by
    rw [List.all_cons, Bool.and_eq_true, h x, all_iff_map h r]
    constructor
    · rintro ⟨⟨s, h1, rfl⟩, ⟨b, h2, rfl⟩⟩
      exact ⟨s :: b, by simp [h1, h2], rfl⟩
    · rintro ⟨b, h1, h2⟩
      cases b with
      | nil => cases h2
      | cons s b =>
        rw [List.map_cons, List.cons.injEq] at h2
        rw [List.all_cons, Bool.and_eq_true] at h1
        exact ⟨⟨s, h1.1, h2.1⟩, ⟨b, h1.2, h2.2⟩⟩
theorem isBod_of {d : Nat} (h : ∀ v, isStm d v = true ↔ ∃ s, okS d s = true ∧ v = encS s) (v : D) : isBod d v = true ↔ ∃ b, okB d b = true ∧ v = encB b := by
  unfold isBod bodW
  constructor
  · intro hv
    split at hv
    · rename_i xs
      rw [Bool.and_eq_true, all_iff_map h] at hv
      obtain ⟨h1, b, h2, rfl⟩ := hv
      exact ⟨b, by simpa [okB, h2] using h1, by rw [encB, encSs_map]⟩
    · cases hv
  · rintro ⟨b, hb, rfl⟩
    simp only [okB, Bool.and_eq_true] at hb
    simp only [encB, encSs_map, List.length_map, Bool.and_eq_true]
    exact ⟨hb.1, (all_iff_map h _).mpr ⟨b, hb.2, rfl⟩⟩
theorem isStm_iff : ∀ (d : Nat) (v : D), isStm d v = true ↔ ∃ s, okS d s = true ∧ v = encS s
  | 0, v => by
    constructor
    · intro h; cases h
    · rintro ⟨s, h, _⟩; simp [okS] at h
  | d + 1, v => by
    have ih := isBod_of (isStm_iff d)
    constructor
    · intro h
      unfold isStm at h
      split at h
      · rename_i x r
        split at h
        · rename_i hx
          subst hx
          split at h
          · rename_i t a b
            rw [Bool.and_eq_true, Bool.and_eq_true] at h
            obtain ⟨h1, h2, h3⟩ := h
            obtain ⟨t, ht, rfl⟩ := isTest_iff.mp h1
            obtain ⟨a, ha, rfl⟩ := (ih a).mp h2
            obtain ⟨b, hb, rfl⟩ := (ih b).mp h3
            refine ⟨.ite t a b, ?_, rfl⟩
            unfold okB at ha hb
            simp [okS, ht, ha, hb]
          · cases h
        · split at h
          · rename_i c
            simp only [Bool.and_eq_true, Bool.or_eq_true, beq_iff_eq, List.isEmpty_iff] at c
            obtain ⟨rfl, c⟩ := c
            rcases c with rfl | rfl | rfl
            · exact ⟨.until, rfl, rfl⟩
            · exact ⟨.up, rfl, rfl⟩
            · exact ⟨.down, rfl, rfl⟩
          · unfold isCounted at h
            split at h
            · rename_i n _
              rw [Bool.and_eq_true, List.contains_iff_mem] at h
              obtain ⟨h1, h2⟩ := h
              simp only [List.mem_cons, List.not_mem_nil, or_false] at h1
              obtain ⟨n, h2, rfl⟩ := isNum_iff.mp h2
              rcases h1 with rfl | rfl | rfl | rfl | rfl
              · exact ⟨.wait n, h2, rfl⟩
              · exact ⟨.rest n, h2, rfl⟩
              · exact ⟨.move n, h2, rfl⟩
              · exact ⟨.ahead n, h2, rfl⟩
              · exact ⟨.set n, h2, rfl⟩
            · cases h
      · cases h
    · rintro ⟨s, h, rfl⟩
      have num : ∀ (x : Str) (n : Int), x ≠ "if" → (["wait", "rest", "move", "ahead", "set"] : List Str).contains x = true → inR ((leastOf x).getD 0) 8 n = true → isStm (d + 1) (.tup [.str x, .int n]) = true := fun x n h1 h2 h3 => by
        simp only [isStm, if_neg h1, List.isEmpty_cons, Bool.false_and, Bool.false_eq_true, if_false]
        simp only [isCounted, h2, Bool.true_and]
        exact isNum_iff.mpr ⟨n, h3, rfl⟩
      cases s with
      | wait n => exact num _ n (by decide +kernel) (by decide +kernel) h
      | rest n => exact num _ n (by decide +kernel) (by decide +kernel) h
      | move n => exact num _ n (by decide +kernel) (by decide +kernel) h
      | ahead n => exact num _ n (by decide +kernel) (by decide +kernel) h
      | set n => exact num _ n (by decide +kernel) (by decide +kernel) h
      | «until» => rfl
      | up => rfl
      | down => rfl
      | ite t a b =>
        simp only [okS, Bool.and_eq_true] at h
        have h1 := isTest_iff.mpr ⟨t, h.1, rfl⟩
        have h2 := (ih (encB a)).mpr ⟨a, by simp only [okB, Bool.and_eq_true]; exact h.2.1, rfl⟩
        have h3 := (ih (encB b)).mpr ⟨b, by simp only [okB, Bool.and_eq_true]; exact h.2.2, rfl⟩
        unfold isBod encB at h2 h3
        simp only [encS, isStm, if_true, h1, h2, h3, Bool.true_and]
theorem isBod_iff {d : Nat} {v : D} : isBod d v = true ↔ ∃ b, okB d b = true ∧ v = encB b := isBod_of (isStm_iff d) v
end Kt
set_option Elab.async false
set_option linter.all false
set_option maxRecDepth 100000
set_option maxHeartbeats 4000000
/-! KtP: promises of the functions that the laws share -/
namespace Kt
open PySem PySem.Spec L2 Pl
/-! ### sizes -/
def bnd : Nat → Nat
  | 0 => 0
  | d + 1 => 8 * (1 + 2 * bnd d)
theorem bnd_mono {a b : Nat} (h : a ≤ b) : bnd a ≤ bnd b := by
  induction h with
  | refl => exact Nat.le_refl _
  | step h ih =>
    rename_i m
    have : ∀ m, bnd m ≤ bnd (m + 1) := fun m => by
      induction m with
      | zero => exact Nat.zero_le _
      | succ m ih => show 8 * (1 + 2 * bnd m) ≤ 8 * (1 + 2 * bnd (m + 1)); omega
    exact Nat.le_trans ih (this m)
theorem listedB_append (a b : List Stm) : listedB (a ++ b) = listedB a ++ listedB b := by
  induction a with
  | nil => rfl
  | cons s r ih => simp only [List.cons_append, listedB, ih, List.append_assoc]
theorem listedS_pos (s : Stm) : 1 ≤ (listedS s).length := by
  cases s <;> simp [listedS]
theorem listed_le {f : Stm → Prop} {n : Nat} (h : ∀ s, f s → (listedS s).length ≤ n) : ∀ b : List Stm, (∀ s ∈ b, f s) → (listedB b).length ≤ b.length * n
  | [], _ => by simp [listedB]
  | s :: r, hb => by
    have h1 := h s (hb s (List.mem_cons_self ..))
    have h2 := listed_le h r fun x hx => hb x (List.mem_cons_of_mem _ hx)
    simp only [listedB, List.length_append, List.length_cons, Nat.add_mul, Nat.one_mul]; omega
theorem okS_bnd : ∀ (d : Nat) (s : Stm), okS (d + 1) s = true → (listedS s).length ≤ 1 + 2 * bnd d
  | d, s, h => by
    have e : ∀ a : List Stm, (decide (a.length ≤ 8) && a.all (okS d)) = true → (listedB a).length ≤ bnd d := fun a ha => by
      rw [Bool.and_eq_true, decide_eq_true_eq, List.all_eq_true] at ha
      cases d with
      | zero =>
        cases a with
        | nil => simp [listedB]
        | cons s r => have := ha.2 s (List.mem_cons_self ..); simp [okS] at this
      | succ d =>
        have := listed_le (f := fun s => okS (d + 1) s = true) (fun s hs => okS_bnd d s hs) a ha.2
        refine Nat.le_trans this (Nat.mul_le_mul_right _ ha.1)
    cases s with
    | ite t a b =>
      simp only [okS, Bool.and_eq_true] at h
      have h1 := e a (by simp only [Bool.and_eq_true]; exact h.2.1)
      have h2 := e b (by simp only [Bool.and_eq_true]; exact h.2.2)
      simp only [listedS, List.length_cons, List.length_append]; omega
    | _ => simp only [listedS, List.length_singleton]; omega
theorem okB_bnd {d : Nat} {b : List Stm} (h : okB d b = true) : (listedB b).length ≤ bnd d := by
  simp only [okB, Bool.and_eq_true, decide_eq_true_eq, List.all_eq_true] at h
  cases d with
  | zero =>
    cases b with
    | nil => simp [listedB]
    | cons s r => have := h.2 s (List.mem_cons_self ..); simp [okS] at this
  | succ d =>
    have := listed_le (f := fun s => okS (d + 1) s = true) (fun s hs => okS_bnd d s hs) b h.2
    exact Nat.le_trans this (Nat.mul_le_mul_right _ h.1)
theorem okS_mono : ∀ {d e : Nat} {s : Stm}, okS d s = true → d ≤ e → okS e s = true
  | 0, _, _, h, _ => by simp [okS] at h
  | d + 1, 0, _, _, h => by omega
  | d + 1, e + 1, s, h, hd => by
    cases s with
    | ite t a b =>
      simp only [okS, Bool.and_eq_true, List.all_eq_true] at h ⊢
      exact ⟨h.1, ⟨h.2.1.1, fun x hx => okS_mono (h.2.1.2 x hx) (by omega)⟩, ⟨h.2.2.1, fun x hx => okS_mono (h.2.2.2 x hx) (by omega)⟩⟩
    | _ => exact h
theorem okB_mono {d e : Nat} {b : List Stm} (h : okB d b = true) (hd : d ≤ e) : okB e b = true := by
  simp only [okB, Bool.and_eq_true, List.all_eq_true] at h ⊢
  exact ⟨h.1, fun x hx => okS_mono (h.2 x hx) hd⟩
theorem okB_iff {d : Nat} {b : List Stm} : okB d b = true ↔ b.length ≤ 8 ∧ ∀ s ∈ b, okS d s = true := by
  simp only [okB, Bool.and_eq_true, decide_eq_true_eq, List.all_eq_true]
theorem okS_ite {d : Nat} {t : Tst} {a b : List Stm} : okS (d + 1) (.ite t a b) = true ↔ okT t = true ∧ okB d a = true ∧ okB d b = true := by
  simp only [okS, okB, Bool.and_eq_true]
/-! ### the library: bodies, lists of statements, loops -/
def bodD : Stm → List D
  | .ite _ a b => [encB a, encB b]
  | _ => []
def φ_bodies_of : PFn := fun ds W Q _ => ∃ s, ds = [encS s] ∧ Q (.lst (bodD s)) W
def φ_listed (d : Nat) : PFn := fun ds W Q _ => ∃ b, ds = [encB b] ∧ okB d b = true ∧ Q (.lst ((listedB b).map encS)) W
/-- how many statements there are -/
def szD : Nat → D → Nat
  | 0, _ => 1
  | d + 1, .tup [_, _, .tup a, .tup b] => 1 + ((a.map (szD d)).sum + (b.map (szD d)).sum)
  | _ + 1, _ => 1
theorem szD_S : ∀ (d : Nat) (s : Stm), okS d s = true → szD d (encS s) = (listedS s).length
  | 0, s, h => by simp [okS] at h
  | d + 1, s, h => by
    have e : ∀ a : List Stm, (∀ s ∈ a, okS d s = true) → ((encSs a).map (szD d)).sum = (listedB a).length := fun a => by
      induction a with
      | nil => intro _; rfl
      | cons s r ih =>
        intro ha
        have h1 := szD_S d s (ha s (List.mem_cons_self ..))
        have h2 := ih fun x hx => ha x (List.mem_cons_of_mem _ hx)
        simp only [encSs, List.map_cons, List.sum_cons, listedB, List.length_append, h1, h2]
    cases s with
    | ite t a b =>
      obtain ⟨_, h1, h2⟩ := okS_ite.mp h
      have e1 := e a (okB_iff.mp h1).2
      have e2 := e b (okB_iff.mp h2).2
      simp only [encS, szD, e1, e2, listedS, List.length_cons, List.length_append]; omega
    | _ => rfl
theorem szD_B {d : Nat} {b : List Stm} (h : okB d b = true) : ((encSs b).map (szD d)).sum = (listedB b).length := by
  replace h := (okB_iff.mp h).2
  induction b with
  | nil => rfl
  | cons s r ih =>
    have h1 := szD_S d s (h s (List.mem_cons_self ..))
    have h2 := ih fun x hx => h x (List.mem_cons_of_mem _ hx)
    simp only [encSs, List.map_cons, List.sum_cons, listedB, List.length_append, h1, h2]
def isLoop (v : D) : Bool := match v with
  | .tup [.int a, .int b, .int c, .tup s] => inR 0 8 a && inR 0 8 b && inR 0 8 c && decide (a ≤ b) && isBod 3 (.tup s) && decide ((s.map (szD 3)).sum ≤ 12)
  | _ => false
theorem isLoop_iff {v : D} : isLoop v = true ↔ ∃ L, okL L = true ∧ v = encL L := by
  constructor
  · intro h
    unfold isLoop at h
    split at h
    · rename_i a b c s
      simp only [Bool.and_eq_true, decide_eq_true_eq] at h
      obtain ⟨⟨⟨⟨⟨h1, h2⟩, h3⟩, h4⟩, h5⟩, h6⟩ := h
      obtain ⟨q, hq, e⟩ := isBod_iff.mp h5
      rw [encB, D.tup.injEq] at e
      subst e
      rw [szD_B hq] at h6
      exact ⟨⟨a, b, c, q⟩, by simp [okL, h1, h2, h3, h4, hq, h6], rfl⟩
    · cases h
  · rintro ⟨⟨a, b, c, q⟩, h, rfl⟩
    simp only [okL, Bool.and_eq_true, decide_eq_true_eq] at h
    obtain ⟨⟨⟨⟨⟨h1, h2⟩, h3⟩, h4⟩, h5⟩, h6⟩ := h
    have h7 := isBod_iff.mpr ⟨q, h5, rfl⟩
    unfold encB at h7
    simp only [encL, encB, isLoop, h1, h2, h3, h4, h7, szD_B h5, h6, decide_true, Bool.and_true]
theorem okL_iff {l : Loop} : okL l = true ↔ (0 ≤ l.least ∧ l.least ≤ l.most ∧ l.most ≤ 8 ∧ 0 ≤ l.first ∧ l.first ≤ 8) ∧ okB 3 l.body = true ∧ (listedB l.body).length ≤ 12 := by
  simp only [okL, inR, Bool.and_eq_true, decide_eq_true_eq]
  constructor
  · rintro ⟨⟨⟨⟨⟨⟨a, b⟩, c, d⟩, e, f⟩, g⟩, h⟩, i⟩
    exact ⟨⟨a, g, d, e, f⟩, h, i⟩
  · rintro ⟨⟨a, g, d, e, f⟩, h, i⟩
    exact ⟨⟨⟨⟨⟨⟨a, by omega⟩, by omega, d⟩, e, f⟩, g⟩, h⟩, i⟩
def φ_is_loop : PFn := fun ds W Q _ => ∃ v, ds = [v] ∧ v.good = true ∧ Q (.bl (isLoop v)) W
def φ_need_loop (C : Addr) : PFn := fun ds W Q E => ∃ v, ds = [v] ∧ v.good = true ∧ (isLoop v = true → Q .non W) ∧ (isLoop v = false → E ⟨.ref C, none⟩ W)
def φ_need_statement_number (C : Addr) : PFn := fun ds W Q E => ∃ L v, ds = [encL L, v] ∧ okL L = true ∧ v.dat = true ∧
  (isNum v 0 ((listedB L.body).length - 1) = true → Q .non W) ∧ (isNum v 0 ((listedB L.body).length - 1) = false → E ⟨.ref C, none⟩ W)
/- the body without the statement of a number -/
mutual
def woS : Stm → Int → Int → Stm
  | .ite t a b, first, gone => .ite t (woB a (first + 1) gone) (woB b (first + 1 + (listedB a).length) gone)
  | .wait n, _, _ => .wait n
  | .rest n, _, _ => .rest n
  | .move n, _, _ => .move n
  | .ahead n, _, _ => .ahead n
  | .set n, _, _ => .set n
  | .until, _, _ => .until
  | .up, _, _ => .up
  | .down, _, _ => .down
def woB : List Stm → Int → Int → List Stm
  | [], _, _ => []
  | s :: r, first, gone => if first = gone then woB r (first + (listedS s).length) gone else woS s first gone :: woB r (first + (listedS s).length) gone
end
mutual
/-- statements before the gone one are told in full -/
theorem woS_ok : ∀ (s : Stm) (d : Nat) (first gone : Int), okS d s = true → okS d (woS s first gone) = true
  | .ite t a b, 0, _, _, h => by simp [okS] at h
  | .ite t a b, d + 1, first, gone, h => by
    obtain ⟨h1, h2, h3⟩ := okS_ite.mp h
    rw [woS]
    exact okS_ite.mpr ⟨h1, (woB_ok a d _ gone h2).1, (woB_ok b d _ gone h3).1⟩
  | .wait n, _, _, _, h => h
  | .rest n, _, _, _, h => h
  | .move n, _, _, _, h => h
  | .ahead n, _, _, _, h => h
  | .set n, _, _, _, h => h
  | .until, _, _, _, h => h
  | .up, _, _, _, h => h
  | .down, _, _, _, h => h
theorem woB_ok : ∀ (b : List Stm) (d : Nat) (first gone : Int), okB d b = true → okB d (woB b first gone) = true ∧ (woB b first gone).length ≤ b.length
  | [], _, _, _, h => ⟨h, Nat.le_refl _⟩
  | s :: r, d, first, gone, h => by
    obtain ⟨h1, h2⟩ := okB_iff.mp h
    have hr : okB d r = true := okB_iff.mpr ⟨by simp at h1; omega, fun x hx => h2 x (List.mem_cons_of_mem _ hx)⟩
    obtain ⟨i1, i2⟩ := woB_ok r d (first + (listedS s).length) gone hr
    rw [woB]
    split
    · exact ⟨i1, by simp; omega⟩
    · have hs := woS_ok s d first gone (h2 s (List.mem_cons_self ..))
      refine ⟨okB_iff.mpr ⟨by simp at h1 ⊢; omega, fun x hx => ?_⟩, by simp; omega⟩
      rcases List.mem_cons.mp hx with rfl | hx
      · exact hs
      · exact (okB_iff.mp i1).2 x hx
end
mutual
/-- how many are left: the gone one is among them, or all are kept -/
theorem woS_size : ∀ (s : Stm) (first gone : Int), (listedS (woS s first gone)).length ≤ (listedS s).length ∧ (first < gone → gone < first + (listedS s).length → (listedS (woS s first gone)).length < (listedS s).length)
  | .ite t a b, first, gone => by
    obtain ⟨a1, a2⟩ := woB_size a (first + 1) gone
    obtain ⟨b1, b2⟩ := woB_size b (first + 1 + (listedB a).length) gone
    simp only [woS, listedS, List.length_cons, List.length_append]
    refine ⟨by omega, fun h1 h2 => ?_⟩
    by_cases h : gone < first + 1 + (listedB a).length
    · have := a2 (by omega) h; omega
    · have := b2 (by omega) (by omega); omega
  | .wait n, _, _ => by simp [woS, listedS]; omega
  | .rest n, _, _ => by simp [woS, listedS]; omega
  | .move n, _, _ => by simp [woS, listedS]; omega
  | .ahead n, _, _ => by simp [woS, listedS]; omega
  | .set n, _, _ => by simp [woS, listedS]; omega
  | .until, _, _ => by simp [woS, listedS]; omega
  | .up, _, _ => by simp [woS, listedS]; omega
  | .down, _, _ => by simp [woS, listedS]; omega
theorem woB_size : ∀ (b : List Stm) (first gone : Int), (listedB (woB b first gone)).length ≤ (listedB b).length ∧ (first ≤ gone → gone < first + (listedB b).length → (listedB (woB b first gone)).length < (listedB b).length)
  | [], first, gone => by simp [woB, listedB]
  | s :: r, first, gone => by
    obtain ⟨a1, a2⟩ := woB_size r (first + (listedS s).length) gone
    obtain ⟨b1, b2⟩ := woS_size s first gone
    have hp := listedS_pos s
    rw [woB]
    split
    · simp only [listedB, List.length_append]
      exact ⟨by omega, fun _ _ => by omega⟩
    · simp only [listedB, List.length_append]
      refine ⟨by omega, fun h1 h2 => ?_⟩
      by_cases h : gone < first + (listedS s).length
      · have := b2 (by omega) h; omega
      · have := a2 (by omega) (by omega); omega
end
def less (L : Loop) (n : Int) : Loop := { L with body := woB L.body 0 n }
theorem less_ok {L : Loop} {n : Int} (h : okL L = true) : okL (less L n) = true := by
  rw [okL_iff] at *
  obtain ⟨h1, h2, h3⟩ := h
  exact ⟨h1, (woB_ok _ _ _ _ h2).1, Nat.le_trans (woB_size _ _ _).1 h3⟩
def φ_body_without (d : Nat) : PFn := fun ds W Q _ => ∃ b first gone, ds = [encB b, .int first, .int gone] ∧ okB d b = true ∧ Q (encB (woB b first gone)) W
def φ_less_one : PFn := fun ds W Q _ => ∃ L n, ds = [encL L, .int n] ∧ okL L = true ∧ Q (encL (less L n)) W
def φ_words_of : PFn := fun ds W Q _ => ∃ L, ds = [encL L] ∧ okL L = true ∧ Q (.lst ((listedB L.body).map fun s => .str (wordS s))) W
def φ_statements (C : Addr) : PFn := fun ds W Q E => ∃ v, ds = [v] ∧ v.good = true ∧ (isLoop v = true → ∃ L, okL L = true ∧ v = encL L ∧ Q (.lst ((listedB L.body).map fun s => .str (wordS s))) W) ∧ (isLoop v = false → E ⟨.ref C, none⟩ W)
def φ_without (C C2 : Addr) : PFn := fun ds W Q E => ∃ v n, ds = [v, n] ∧ v.good = true ∧ n.dat = true ∧ (isLoop v = false → E ⟨.ref C, none⟩ W) ∧
  (isLoop v = true → ∃ L, okL L = true ∧ v = encL L ∧ (isNum n 0 ((listedB L.body).length - 1) = false → E ⟨.ref C2, none⟩ W) ∧ (∀ k, n = .int k → inR 0 ((listedB L.body).length - 1) k = true → Q (encL (less L k)) W))
/-! ### the laws' source of numbers -/
def Src (W : Addr → Option Own) (a : Addr) : Prop := ∃ x y : Int, W a = some (.lst [.int x, .int y])
def Dr (W : Addr → Option Own) (a : Addr) (W' : Addr → Option Own) : Prop := ∃ x y : Int, W' = updW W a (.lst [.int x, .int y])
theorem Dr.src {W W' : Addr → Option Own} {a : Addr} (h : Dr W a W') : Src W' a := by
  obtain ⟨x, y, rfl⟩ := h; exact ⟨x, y, updW_self ..⟩
theorem Dr.trans {W W' W'' : Addr → Option Own} {a : Addr} (h : Dr W a W') (h' : Dr W' a W'') : Dr W a W'' := by
  obtain ⟨x, y, rfl⟩ := h; obtain ⟨z, u, rfl⟩ := h'; exact ⟨z, u, updW_upd ..⟩
theorem Src.dr {W : Addr → Option Own} {a : Addr} (h : Src W a) : Dr W a W := by
  obtain ⟨x, y, h⟩ := h
  refine ⟨x, y, funext fun b => ?_⟩
  unfold updW
  split
  · rename_i e; subst e; exact h
  · rfl
def φ__law_draw : PFn := fun ds W Q _ => ∃ a m, ds = [.adr a, .int m] ∧ 0 < m ∧ m < 2 ^ 200 ∧ Src W a ∧ ∀ d W', 0 ≤ d → d < m → Dr W a W' → Q (.int d) W'
def φ__law_source : PFn := fun ds W Q _ => ∃ (xs : List Int) (k : Int), ds = [.lst (xs.map D.int), .int k] ∧ 0 ≤ k ∧ k ≤ 1000 ∧ ∀ a W', Dr W a W' → W a = none → Q (.adr a) W'
def seqD : D → Option (List D)
  | .lst xs => some xs
  | .tup xs => some xs
  | _ => none
def φ__law_of : PFn := fun ds W Q _ => ∃ a d xs, ds = [.adr a, d] ∧ seqD d = some xs ∧ xs ≠ [] ∧ xs.length ≤ 1000000 ∧ Src W a ∧ ∀ x W', x ∈ xs → Dr W a W' → Q x W'
/-- a statement that the laws draw -/
def simS : Stm → Bool
  | .ite _ _ _ => false
  | .set n => inR 1 8 n
  | .wait n => inR 1 8 n
  | .rest n => inR 1 8 n
  | .move n => inR 1 8 n
  | .ahead n => inR 1 8 n
  | .until => true
  | .up => true
  | .down => true
theorem simS_ok {s : Stm} (h : simS s = true) (d : Nat) : okS (d + 1) s = true := by
  cases s with
  | ite t a b => cases h
  | set n => simp only [simS, inR, Bool.and_eq_true, decide_eq_true_eq] at h; simp only [okS, inR, Bool.and_eq_true, decide_eq_true_eq]; omega
  | _ => exact h
def φ__law_simple : PFn := fun ds W Q _ => ∃ a, ds = [.adr a] ∧ Src W a ∧ ∀ s W', simS s = true → Dr W a W' → Q (encS s) W'
def φ__law_body (d : Nat) : PFn := fun ds W Q _ => ∃ a m, ds = [.adr a, .int d, .int m] ∧ 0 ≤ m ∧ m ≤ 8 ∧ Src W a ∧ ∀ b W', okB d b = true → (b.length : Int) ≤ m → Dr W a W' → Q (encB b) W'
def φ__law_size (d : Nat) : PFn := fun ds W Q _ => ∃ b, ds = [encB b] ∧ okB d b = true ∧ Q (.int (listedB b).length) W
def φ__law_known : PFn := fun ds W Q _ => ∃ a, ds = [.adr a] ∧ Src W a ∧ ∀ b W', okB 2 b = true → b.length ≤ 3 → Dr W a W' → Q (encB b) W'
def φ__law_bent : PFn := fun ds W Q _ => ∃ a b, ds = [.adr a, encB b] ∧ okB 3 b = true ∧ b.length ≤ 7 ∧ Src W a ∧ ∀ b' W', okB 3 b' = true → Dr W a W' → Q (encB b') W'
def lawL (L : Loop) : Prop := okL L = true ∧ L.least ≤ 2 ∧ L.most ≤ L.least + 3 ∧ L.first ≤ 5
def φ__law_loop : PFn := fun ds W Q _ => ∃ a, ds = [.adr a] ∧ Src W a ∧ ∀ L W', lawL L → Dr W a W' → Q (encL L) W'
def φ__law_cut (d : Nat) : PFn := fun ds W Q _ => ∃ b first gone, ds = [encB b, .int first, .int gone] ∧ okB d b = true ∧ Q (encB (woB b first gone)) W
def φ__law_less : PFn := φ_less_one
/-- loops' bodies that are known to be interesting -/
def knL (n m : Int) : List (List Stm) := [[.until, .move n], [.until, .ahead n], [.rest n], [.wait m], [.until, .set n], [.move n, .until, .ite .due [.wait m] []], [.until, .move n, .ite (.late m) [.set 0] []],
  [.ite .due [.ahead n, .wait m] [.until, .move n]], [.rest m, .until, .set n], [.ite .flag [.down, .wait m] [.up], .until, .ahead n]]
theorem knL_ok {n m : Int} (h1 : 1 ≤ n) (h2 : n ≤ 8) (h3 : 1 ≤ m) (h4 : m ≤ 8) : ∀ b ∈ knL n m, okB 2 b = true ∧ b.length ≤ 3 := by
  have e1 : inR 0 8 n = true := by simp only [inR, Bool.and_eq_true, decide_eq_true_eq]; omega
  have e2 : inR 1 8 n = true := by simp only [inR, Bool.and_eq_true, decide_eq_true_eq]; omega
  have e3 : inR 0 8 m = true := by simp only [inR, Bool.and_eq_true, decide_eq_true_eq]; omega
  have e4 : inR 1 8 m = true := by simp only [inR, Bool.and_eq_true, decide_eq_true_eq]; omega
  have e0 : inR 0 8 0 = true := by decide
  intro b hb
  simp only [knL, List.mem_cons, List.not_mem_nil, or_false] at hb
  rcases hb with rfl | rfl | rfl | rfl | rfl | rfl | rfl | rfl | rfl | rfl <;> simp [okB, okS, okT, e0, e1, e2, e3, e4]
def φ__law_refused : PFn := fun ds W Q _ => ∃ L v, ds = [encL L, v] ∧ okL L = true ∧ v.dat = true ∧ isNum v 0 ((listedB L.body).length - 1) = false ∧ Q (.bl true) W
/-- a law: it answers True -/
def φ_law : PFn := fun ds _ Q _ => ∃ xs : List Int, ds = [.lst (xs.map D.int)] ∧ xs.length ≤ 63 ∧ ∀ W', Q (.bl true) W'
end Kt
set_option Elab.async false
set_option linter.all false
set_option maxRecDepth 100000
set_option maxHeartbeats 4000000
/-! KtR: rows, what loops look at, how far they go -/
namespace Kt
open PySem PySem.Spec L2 Pl
def isRow (L : Loop) (v : D) : Bool := match v with
  | .tup [.int g, .tup ts] => decide (1 ≤ g) && ts.all fun t => isNum t (g * L.least) (g * L.most)
  | _ => false
/-- a row within the bounds that is_row asks for -/
def isRowB (L : Loop) (v : D) : Bool := match v with
  | .tup [.int g, .tup ts] => decide (1 ≤ g) && (ts.all fun t => isNum t (g * L.least) (g * L.most)) && (decide (g ≤ 10 ^ 30) && decide (ts.length ≤ 40))
  | _ => false
def shortRow (v : D) : Prop := ∀ g ts, v = .tup [g, .tup ts] → ts.length ≤ 1000000
def φ_is_time : PFn := fun ds W Q _ => ∃ L g v, ds = [encL L, .int g, v] ∧ okL L = true ∧ v.dat = true ∧ Q (.bl (isNum v (g * L.least) (g * L.most))) W
def φ_is_good_row : PFn := fun ds W Q _ => ∃ L v, ds = [encL L, v] ∧ okL L = true ∧ v.good = true ∧ shortRow v ∧ Q (.bl (isRow L v)) W
def φ_is_row (C : Addr) : PFn := fun ds W Q E => ∃ l v, ds = [l, v] ∧ l.good = true ∧ v.good = true ∧ shortRow v ∧ (isLoop l = false → E ⟨.ref C, none⟩ W) ∧ (isLoop l = true → ∃ L, okL L = true ∧ l = encL L ∧ Q (.bl (isRowB L v)) W)
def looksS : Stm → Bool
  | .until => true
  | .ahead _ => true
  | .ite .due _ _ => true
  | .ite (.late _) _ _ => true
  | _ => false
def lookL (L : Loop) : Bool := (listedB L.body).any looksS
def φ_is_looking : PFn := fun ds W Q _ => ∃ L, ds = [encL L] ∧ okL L = true ∧ Q (.bl (lookL L)) W
def φ_looks (C : Addr) : PFn := fun ds W Q E => ∃ l, ds = [l] ∧ l.good = true ∧ (isLoop l = false → E ⟨.ref C, none⟩ W) ∧ (isLoop l = true → ∃ L, okL L = true ∧ l = encL L ∧ Q (.bl (lookL L)) W)
def spanS : Stm → Int
  | .wait n => n
  | .rest n => n
  | .move n => n
  | _ => 0
def spanL (L : Loop) : Int := ((listedB L.body).map spanS).sum
def farL (L : Loop) : Int := 12 + 4 * (L.most + spanL L)
def φ_far_of : PFn := fun ds W Q _ => ∃ L, ds = [encL L] ∧ okL L = true ∧ Q (.int (farL L)) W
def φ_far (C : Addr) : PFn := fun ds W Q E => ∃ l, ds = [l] ∧ l.good = true ∧ (isLoop l = false → E ⟨.ref C, none⟩ W) ∧ (isLoop l = true → ∃ L, okL L = true ∧ l = encL L ∧ Q (.int (farL L)) W)
/-! ### the least numbers, as the laws write them -/
def lowN (x : Str) : Int := if x = "wait" then 1 else if x = "rest" then 1 else if x = "move" then 1 else if x = "ahead" then 1 else if x = "set" then 0 else 9
def lowPs : List (D × D) := [(.str "wait", .int 1), (.str "rest", .int 1), (.str "move", .int 1), (.str "ahead", .int 1), (.str "set", .int 0)]
theorem low_merge : mergeD ([], []) lowPs = ([.str "wait", .str "rest", .str "move", .str "ahead", .str "set"], [.int 1, .int 1, .int 1, .int 1, .int 0]) := by
  have f01 : (("wait" : Str) == "rest") = false := by decide +kernel
  have f02 : (("wait" : Str) == "move") = false := by decide +kernel
  have f03 : (("wait" : Str) == "ahead") = false := by decide +kernel
  have f04 : (("wait" : Str) == "set") = false := by decide +kernel
  have f12 : (("rest" : Str) == "move") = false := by decide +kernel
  have f13 : (("rest" : Str) == "ahead") = false := by decide +kernel
  have f14 : (("rest" : Str) == "set") = false := by decide +kernel
  have f23 : (("move" : Str) == "ahead") = false := by decide +kernel
  have f24 : (("move" : Str) == "set") = false := by decide +kernel
  have f34 : (("ahead" : Str) == "set") = false := by decide +kernel
  simp only [mergeD, lowPs, List.foldl_cons, List.foldl_nil, dput, List.any_cons, List.any_nil, eqD_str, Bool.or_false, Bool.false_eq_true, if_false, List.nil_append, List.cons_append, f01, f02, f03, f04, f12, f13, f14, f23, f24, f34]
theorem low_get (x : Str) : (dget (mergeD ([], []) lowPs).1 (mergeD ([], []) lowPs).2 (.str x)).getD (.int 9) = .int (lowN x) := by
  rw [low_merge]
  unfold lowN dget
  simp only [List.zip_cons_cons, List.zip_nil_right, List.find?_cons, List.find?_nil, eqD_str]
  by_cases h1 : x = "wait"
  · subst h1; simp
  · rw [if_neg h1, show (("wait" : Str) == x) = false from by simpa [beq_eq_false_iff_ne] using Ne.symm h1]
    by_cases h2 : x = "rest"
    · subst h2; simp
    · rw [if_neg h2, show (("rest" : Str) == x) = false from by simpa [beq_eq_false_iff_ne] using Ne.symm h2]
      by_cases h3 : x = "move"
      · subst h3; simp
      · rw [if_neg h3, show (("move" : Str) == x) = false from by simpa [beq_eq_false_iff_ne] using Ne.symm h3]
        by_cases h4 : x = "ahead"
        · subst h4; simp
        · rw [if_neg h4, show (("ahead" : Str) == x) = false from by simpa [beq_eq_false_iff_ne] using Ne.symm h4]
          by_cases h5 : x = "set"
          · subst h5; simp
          · rw [if_neg h5, show (("set" : Str) == x) = false from by simpa [beq_eq_false_iff_ne] using Ne.symm h5]
            rfl
theorem low_counted (x : Str) (v : D) : isNum v (lowN x) 8 = isCounted x [v] ["wait", "rest", "move", "ahead", "set"] := by
  unfold isCounted lowN
  by_cases h1 : x = "wait"
  · subst h1; have e : leastOf "wait" = some 1 := (by decide +kernel); simp [e]
  · by_cases h2 : x = "rest"
    · subst h2; have e : leastOf "rest" = some 1 := (by decide +kernel); simp [e]
    · by_cases h3 : x = "move"
      · subst h3; have e : leastOf "move" = some 1 := (by decide +kernel); simp [e]
      · by_cases h4 : x = "ahead"
        · subst h4; have e : leastOf "ahead" = some 1 := (by decide +kernel); simp [e]
        · by_cases h5 : x = "set"
          · subst h5; have e : leastOf "set" = some 0 := (by decide +kernel); rw [if_neg h1, if_neg h2, if_neg h3, if_neg h4]; simp [e]
          · have : (["wait", "rest", "move", "ahead", "set"] : List Str).contains x = false := by simp [h1, h2, h3, h4, h5]
            rw [this, if_neg h1, if_neg h2, if_neg h3, if_neg h4, if_neg h5]
            unfold isNum
            cases v <;> simp
            omega
theorem not_counted (x : Str) (r : List D) (h : x = "until" ∨ x = "up" ∨ x = "down") : isCounted x r ["wait", "rest", "move", "ahead", "set"] = false := by
  have e : (["wait", "rest", "move", "ahead", "set"] : List Str).contains x = false := by rcases h with rfl | rfl | rfl <;> decide +kernel
  unfold isCounted
  split
  · rw [e]; rfl
  · rfl
/-! ### values of any kind, small -/
mutual
def wdD : D → Nat
  | .tup xs => max xs.length (wdDs xs)
  | .lst xs => max xs.length (wdDs xs)
  | _ => 0
def wdDs : List D → Nat
  | [] => 0
  | x :: r => max (wdD x) (wdDs r)
end
/-- good, of depth at most n, no part longer than m -/
def okV (n m : Nat) (v : D) : Bool := v.gd n && decide (wdD v ≤ m)
theorem wdDs_le {m : Nat} : ∀ {xs : List D}, wdDs xs ≤ m ↔ ∀ x ∈ xs, wdD x ≤ m
  | [] => by simp [wdDs]
  | x :: r => by
    have ih := wdDs_le (m := m) (xs := r)
    simp only [wdDs, List.mem_cons, forall_eq_or_imp, Nat.max_le, ih]
theorem okV_tup {n m : Nat} {xs : List D} : okV (n + 1) m (.tup xs) = true ↔ xs.length ≤ m ∧ ∀ x ∈ xs, okV n m x = true := by
  simp only [okV, gd_tup, wdD, Bool.and_eq_true, decide_eq_true_eq, Nat.max_le, wdDs_le, List.all_eq_true]
  constructor
  · rintro ⟨h1, h2, h3⟩
    exact ⟨h2, fun x hx => ⟨h1 x hx, h3 x hx⟩⟩
  · rintro ⟨h1, h2⟩
    exact ⟨fun x hx => (h2 x hx).1, h1, fun x hx => (h2 x hx).2⟩
theorem okV_lst {n m : Nat} {xs : List D} : okV (n + 1) m (.lst xs) = true ↔ xs.length ≤ m ∧ ∀ x ∈ xs, okV n m x = true := by
  simp only [okV, gd_lst, wdD, Bool.and_eq_true, decide_eq_true_eq, Nat.max_le, wdDs_le, List.all_eq_true]
  constructor
  · rintro ⟨h1, h2, h3⟩
    exact ⟨h2, fun x hx => ⟨h1 x hx, h3 x hx⟩⟩
  · rintro ⟨h1, h2⟩
    exact ⟨fun x hx => (h2 x hx).1, h1, fun x hx => (h2 x hx).2⟩
theorem okV_mono {n m a b : Nat} {v : D} (h : okV n m v = true) (h1 : n ≤ a) (h2 : m ≤ b) : okV a b v = true := by
  simp only [okV, Bool.and_eq_true, decide_eq_true_eq] at h ⊢
  exact ⟨gd_mono h.1 h1, by omega⟩
theorem okV_good {n m : Nat} {v : D} (h : okV n m v = true) (hn : n ≤ 60) : v.good = true := by
  simp only [okV, Bool.and_eq_true] at h
  exact gd_good h.1 hn
end Kt
set_option Elab.async false
set_option linter.all false
set_option maxRecDepth 100000
set_option maxHeartbeats 4000000
/-! KtQ: rounds of a loop -/
namespace Kt
open PySem PySem.Spec L2 Pl
structure Rn where
  gone : Int
  late : Int
  flag : Bool
  nums : List Int
def encR (r : Rn) : D := .tup [.int r.gone, .int r.late, .bl r.flag, .tup (r.nums.map D.int)]
def holdsT (t : Tst) (late : Int) (flag : Bool) (g : Int) : Bool := match t with
  | .flag => flag
  | .due => decide (0 ≤ late)
  | .late n => decide (g * n < late)
def waitS (s : Stm) (gone late g : Int) : Int := match s with
  | .wait n => g * n
  | .until => if -late > 0 then -late else 0
  | .rest n => if g * n - gone > 0 then g * n - gone else 0
  | _ => 0
def markS (s : Stm) (late g : Int) : Int := match s with
  | .set n => -g * n
  | .move n => late - g * n
  | .ahead n => if 0 ≤ late then late - g * n * (late / (g * n) + 1) else late
  | _ => late
mutual
def runS : Stm → Int → Rn → Int → Rn
  | .ite t a b, first, r, g => if holdsT t r.late r.flag g = true then runB a (first + 1) { r with nums := r.nums ++ [first] } g else runB b (first + 1 + (listedB a).length) { r with nums := r.nums ++ [first] } g
  | .up, first, r, _ => { r with flag := true, nums := r.nums ++ [first] }
  | .down, first, r, _ => { r with flag := false, nums := r.nums ++ [first] }
  | .wait n, first, r, g => ⟨r.gone + waitS (.wait n) r.gone r.late g, markS (.wait n) (r.late + waitS (.wait n) r.gone r.late g) g, r.flag, r.nums ++ [first]⟩
  | .rest n, first, r, g => ⟨r.gone + waitS (.rest n) r.gone r.late g, markS (.rest n) (r.late + waitS (.rest n) r.gone r.late g) g, r.flag, r.nums ++ [first]⟩
  | .move n, first, r, g => ⟨r.gone + waitS (.move n) r.gone r.late g, markS (.move n) (r.late + waitS (.move n) r.gone r.late g) g, r.flag, r.nums ++ [first]⟩
  | .ahead n, first, r, g => ⟨r.gone + waitS (.ahead n) r.gone r.late g, markS (.ahead n) (r.late + waitS (.ahead n) r.gone r.late g) g, r.flag, r.nums ++ [first]⟩
  | .set n, first, r, g => ⟨r.gone + waitS (.set n) r.gone r.late g, markS (.set n) (r.late + waitS (.set n) r.gone r.late g) g, r.flag, r.nums ++ [first]⟩
  | .until, first, r, g => ⟨r.gone + waitS .until r.gone r.late g, markS .until (r.late + waitS .until r.gone r.late g) g, r.flag, r.nums ++ [first]⟩
def runB : List Stm → Int → Rn → Int → Rn
  | [], _, r, _ => r
  | s :: rest, first, r, g => runB rest (first + (listedS s).length) (runS s first r g) g
end
/-- the grids at which 'ahead' is computed -/
def gridOk (g : Int) : Stm → Bool
  | .ahead n => decide (g * n < 2 ^ 64)
  | _ => true
def isIte : Stm → Bool
  | .ite _ _ _ => true
  | _ => false
def φ_holds : PFn := fun ds W Q _ => ∃ t late flag g, ds = [encT t, .int late, .bl flag, .int g] ∧ okT t = true ∧ Q (.bl (holdsT t late flag g)) W
def φ_waited : PFn := fun ds W Q _ => ∃ s gone late g d, ds = [encS s, .int gone, .int late, .int g] ∧ okS d s = true ∧ Q (.int (waitS s gone late g)) W
def φ_marked : PFn := fun ds W Q _ => ∃ s late g d, ds = [encS s, .int late, .int g] ∧ okS d s = true ∧ 1 ≤ g ∧ gridOk g s = true ∧ Q (.int (markS s late g)) W
def φ_begun : PFn := fun ds W Q _ => ∃ L g, ds = [encL L, .int g] ∧ okL L = true ∧ Q (.tup [.int 0, .int (-g * L.first), .bl false]) W
def φ_body_done (d : Nat) : PFn := fun ds W Q _ => ∃ b first r g, ds = [encB b, .int first, encR r, .int g] ∧ okB d b = true ∧ 1 ≤ g ∧ (∀ s ∈ listedB b, gridOk g s = true) ∧ r.nums.length + (listedB b).length ≤ 1000000 ∧ Q (encR (runB b first r g)) W
def φ_need_row (C C2 : Addr) : PFn := fun ds W Q E => ∃ l v, ds = [l, v] ∧ l.good = true ∧ v.good = true ∧ shortRow v ∧ (isLoop l = false → E ⟨.ref C, none⟩ W) ∧ (isLoop l = true → ∃ L, okL L = true ∧ l = encL L ∧ (isRow L v = true → Q .non W) ∧ (isRow L v = false → E ⟨.ref C2, none⟩ W))
end Kt
set_option Elab.async false
set_option linter.all false
set_option maxRecDepth 8000
set_option maxHeartbeats 1000000
/-! KtS: the checks of the library as functions, by the promises of the first reading -/
namespace Kt
open PySem PySem.Spec L2 Pl
def okO (Q : D → Wt → Prop) (E : Exn → Wt → Prop) : Out → Prop
  | .rt d W => Q d W
  | .ex x W => E x W
  | .bad => False
theorem φR_ok {F : RFn} {ds : List D} {W : Wt} {Q : D → Wt → Prop} {E : Exn → Wt → Prop} : φR F ds W Q E = okO Q E (F ds W) := by
  unfold φR okO
  cases F ds W <;> rfl
/-- a function told by a parse of its arguments, a check, an answer -/
def SP {α : Type} (p : List D → Option α) (c : α → Bool) (o : α → Wt → Out) : RFn := fun ds W => match p ds with
  | some a => if c a = true then o a W else .bad
  | none => .bad
theorem SP_wk {α : Type} {p : List D → Option α} {c : α → Bool} {o : α → Wt → Out} {φ : PFn} (h : ∀ ds a W Q E, p ds = some a → c a = true → okO Q E (o a W) → φ ds W Q E) : ∀ ds W Q E, φR (SP p c o) ds W Q E → φ ds W Q E := fun ds W Q E q => by
  rw [φR_ok] at q
  unfold SP at q
  split at q
  · rename_i a e
    split at q
    · rename_i hc; exact h ds a W Q E e hc q
    · exact q.elim
  · exact q.elim
def a1 : List D → Option D
  | [v] => some v
  | _ => none
def a2 : List D → Option (D × D)
  | [u, v] => some (u, v)
  | _ => none
def avi : List D → Option (D × Int)
  | [v, .int a] => some (v, a)
  | _ => none
def avii : List D → Option (D × Int × Int)
  | [v, .int a, .int b] => some (v, a, b)
  | _ => none
theorem a1_ok {ds : List D} {v : D} (h : a1 ds = some v) : ds = [v] := by
  unfold a1 at h; split at h <;> simp_all
theorem a2_ok {ds : List D} {v : D × D} (h : a2 ds = some v) : ds = [v.1, v.2] := by
  unfold a2 at h; split at h <;> simp_all
  obtain rfl := h; exact ⟨rfl, rfl⟩
theorem avi_ok {ds : List D} {v : D × Int} (h : avi ds = some v) : ds = [v.1, .int v.2] := by
  unfold avi at h; split at h <;> simp_all
  obtain rfl := h; exact ⟨rfl, rfl⟩
theorem avii_ok {ds : List D} {v : D × Int × Int} (h : avii ds = some v) : ds = [v.1, .int v.2.1, .int v.2.2] := by
  unfold avii at h; split at h <;> simp_all
  obtain rfl := h; exact ⟨rfl, rfl, rfl⟩
def S_is_number : RFn := SP avii (fun v => v.1.dat) fun v W => .rt (.bl (isNum v.1 v.2.1 v.2.2)) W
theorem S_is_number_wk : ∀ ds W Q E, φR S_is_number ds W Q E → φ_is_number ds W Q E := SP_wk fun ds v W Q E e c q => ⟨_, _, _, avii_ok e, c, q⟩
def S_is_test : RFn := SP a1 (fun v => v.good) fun v W => .rt (.bl (isTest v)) W
theorem S_is_test_wk : ∀ ds W Q E, φR S_is_test ds W Q E → φ_is_test ds W Q E := SP_wk fun ds v W Q E e c q => ⟨_, a1_ok e, c, q⟩
def S_is_statement (d : Nat) : RFn := SP avi (fun v => v.1.good && decide (v.2 = d)) fun v W => .rt (.bl (isStm d v.1)) W
theorem S_is_statement_wk (d : Nat) : ∀ ds W Q E, φR (S_is_statement d) ds W Q E → φ_is_statement d ds W Q E := SP_wk fun ds v W Q E e c q => by
  rw [Bool.and_eq_true, decide_eq_true_eq] at c
  have := avi_ok e
  rw [c.2] at this
  exact ⟨_, this, c.1, q⟩
def S_is_loop : RFn := SP a1 (fun v => v.good) fun v W => .rt (.bl (isLoop v)) W
theorem S_is_loop_wk : ∀ ds W Q E, φR S_is_loop ds W Q E → φ_is_loop ds W Q E := SP_wk fun ds v W Q E e c q => ⟨_, a1_ok e, c, q⟩
def S_need_loop (C : Addr) : RFn := SP a1 (fun v => v.good) fun v W => if isLoop v = true then .rt .non W else .ex ⟨.ref C, none⟩ W
theorem S_need_loop_wk (C : Addr) : ∀ ds W Q E, φR (S_need_loop C) ds W Q E → φ_need_loop C ds W Q E := SP_wk fun ds v W Q E e c q => by
  refine ⟨_, a1_ok e, c, fun h => ?_, fun h => ?_⟩
  · rw [h, if_pos rfl] at q; exact q
  · rw [h, if_neg Bool.false_ne_true] at q; exact q
def isRowD (l v : D) : Bool := match l with
  | .tup (.int a :: .int b :: _) => isRow ⟨a, b, 0, []⟩ v
  | _ => false
theorem isRowD_L (L : Loop) (v : D) : isRowD (encL L) v = isRow L v := rfl
def shortB (v : D) : Bool := match v with
  | .tup [_, .tup ts] => decide (ts.length ≤ 1000000)
  | _ => true
theorem shortB_ok {v : D} (h : shortB v = true) : shortRow v := by
  rintro g ts rfl
  simpa [shortB] using h
/-- need_row, told by what it says -/
def S_need_row (C C2 : Addr) : RFn := SP a2 (fun v => v.1.good && (v.2.good && shortB v.2)) fun v W => if isLoop v.1 = true then (if isRowD v.1 v.2 = true then .rt .non W else .ex ⟨.ref C2, none⟩ W) else .ex ⟨.ref C, none⟩ W
theorem S_need_row_wk (C C2 : Addr) : ∀ ds W Q E, φR (S_need_row C C2) ds W Q E → φ_need_row C C2 ds W Q E := SP_wk fun ds v W Q E e c q => by
  simp only [Bool.and_eq_true] at c
  refine ⟨_, _, a2_ok e, c.1, c.2.1, shortB_ok c.2.2, fun h => ?_, fun h => ?_⟩
  · rw [h, if_neg Bool.false_ne_true] at q; exact q
  · rw [h, if_pos rfl] at q
    obtain ⟨L, hL, e2⟩ := isLoop_iff.mp h
    refine ⟨L, hL, e2, fun h1 => ?_, fun h1 => ?_⟩
    · rw [e2, isRowD_L, h1, if_pos rfl] at q; exact q
    · rw [e2, isRowD_L, h1, if_neg Bool.false_ne_true] at q; exact q
def S_is_good_row : RFn := SP a2 (fun v => isLoop v.1 && (v.2.good && shortB v.2)) fun v W => .rt (.bl (isRowD v.1 v.2)) W
theorem S_is_good_row_wk : ∀ ds W Q E, φR S_is_good_row ds W Q E → φ_is_good_row ds W Q E := SP_wk fun ds v W Q E e c q => by
  simp only [Bool.and_eq_true] at c
  obtain ⟨L, hL, e2⟩ := isLoop_iff.mp c.1
  refine ⟨L, v.2, by rw [a2_ok e, e2], hL, c.2.1, shortB_ok c.2.2, ?_⟩
  rw [e2, isRowD_L] at q
  exact q
/-- how many statements the body of a loop has -/
def sizeD (l : D) : Int := match l with
  | .tup [_, _, _, .tup s] => ((s.map (szD 3)).sum : Nat)
  | _ => 0
theorem sizeD_L {L : Loop} (h : okL L = true) : sizeD (encL L) = (listedB L.body).length := by
  obtain ⟨_, h2, _⟩ := okL_iff.mp h
  show (((encSs L.body).map (szD 3)).sum : Int) = _
  rw [szD_B h2]
def S_need_statement_number (C : Addr) : RFn := SP a2 (fun v => isLoop v.1 && v.2.dat) fun v W => if isNum v.2 0 (sizeD v.1 - 1) = true then .rt .non W else .ex ⟨.ref C, none⟩ W
theorem S_need_statement_number_wk (C : Addr) : ∀ ds W Q E, φR (S_need_statement_number C) ds W Q E → φ_need_statement_number C ds W Q E := SP_wk fun ds v W Q E e c q => by
  simp only [Bool.and_eq_true] at c
  obtain ⟨L, hL, e2⟩ := isLoop_iff.mp c.1
  rw [e2, sizeD_L hL] at q
  refine ⟨L, v.2, by rw [a2_ok e, e2], hL, c.2, fun h => ?_, fun h => ?_⟩
  · rw [h, if_pos rfl] at q; exact q
  · rw [h, if_neg Bool.false_ne_true] at q; exact q
/-! what they tell -/
theorem S_need_row_L {L : Loop} {v : D} {C C2 : Addr} {W : Wt} (h : okL L = true) (hv : v.good = true) (hs : shortB v = true) : S_need_row C C2 [encL L, v] W = if isRow L v = true then .rt .non W else .ex ⟨.ref C2, none⟩ W := by
  have h1 := isLoop_iff.mpr ⟨L, h, rfl⟩
  have h2 := good_L h
  simp only [S_need_row, SP, a2, h1, h2, hv, hs, Bool.and_self, if_true, isRowD_L]
  rfl
theorem S_need_loop_L {L : Loop} {C : Addr} {W : Wt} (h : okL L = true) : S_need_loop C [encL L] W = .rt .non W := by
  have h1 := isLoop_iff.mpr ⟨L, h, rfl⟩
  have h2 := good_L h
  simp only [S_need_loop, SP, a1, h1, h2, if_true]
theorem S_is_loop_v {v : D} {W : Wt} (h : v.good = true) : S_is_loop [v] W = .rt (.bl (isLoop v)) W := by
  simp only [S_is_loop, SP, a1, h, if_true]
end Kt
set_option Elab.async false
set_option linter.all false
set_option maxRecDepth 8000
set_option maxHeartbeats 1000000
/-! KtI: images tell what they are images of -/
namespace Kt
open PySem PySem.Spec L2 Pl
def idxW (x : Str) : Nat := if x == "wait" then 0 else if x == "rest" then 1 else if x == "move" then 2 else if x == "ahead" then 3 else if x == "set" then 4 else if x == "until" then 5 else if x == "up" then 6 else if x == "down" then 7 else 8
def idxS : Stm → Nat
  | .wait _ => 0
  | .rest _ => 1
  | .move _ => 2
  | .ahead _ => 3
  | .set _ => 4
  | .until => 5
  | .up => 6
  | .down => 7
  | .ite _ _ _ => 8
theorem idx_ok (s : Stm) : idxW (wordS s) = idxS s := by
  cases s with
  | wait n => show idxW "wait" = 0; decide +kernel
  | rest n => show idxW "rest" = 1; decide +kernel
  | move n => show idxW "move" = 2; decide +kernel
  | ahead n => show idxW "ahead" = 3; decide +kernel
  | set n => show idxW "set" = 4; decide +kernel
  | «until» => show idxW "until" = 5; decide +kernel
  | up => show idxW "up" = 6; decide +kernel
  | down => show idxW "down" = 7; decide +kernel
  | ite t a b => show idxW "if" = 8; decide +kernel
def wordD (d : D) : Str := match d with
  | .tup (.str x :: _) => x
  | _ => ""
theorem wordD_S (s : Stm) : wordD (encS s) = wordS s := by cases s <;> rfl
theorem idx_of {s t : Stm} (h : encS s = encS t) : idxS s = idxS t := by rw [← idx_ok, ← idx_ok, ← wordD_S, ← wordD_S, h]
theorem encT_inj {s t : Tst} (h : encT s = encT t) : s = t := by
  have n1 : (("due" : Str) = "flag") = False := eq_false (by decide +kernel)
  have n2 : (("flag" : Str) = "due") = False := eq_false (by decide +kernel)
  cases s <;> cases t <;> simp_all [encT]
mutual
theorem encS_inj : ∀ s t : Stm, encS s = encS t → s = t
  | .wait n, t, h => by
    have := idx_of h
    cases t <;> first | (simp only [encS, D.tup.injEq, List.cons.injEq, D.int.injEq, and_true, true_and] at h; rw [h]) | cases this
  | .rest n, t, h => by
    have := idx_of h
    cases t <;> first | cases this; done | (simp only [encS, D.tup.injEq, List.cons.injEq, D.int.injEq, and_true, true_and] at h; rw [h])
  | .move n, t, h => by
    have := idx_of h
    cases t <;> first | cases this; done | (simp only [encS, D.tup.injEq, List.cons.injEq, D.int.injEq, and_true, true_and] at h; rw [h])
  | .ahead n, t, h => by
    have := idx_of h
    cases t <;> first | cases this; done | (simp only [encS, D.tup.injEq, List.cons.injEq, D.int.injEq, and_true, true_and] at h; rw [h])
  | .set n, t, h => by
    have := idx_of h
    cases t <;> first | cases this; done | (simp only [encS, D.tup.injEq, List.cons.injEq, D.int.injEq, and_true, true_and] at h; rw [h])
  | .until, t, h => by
    have := idx_of h
    cases t <;> first | rfl | cases this
  | .up, t, h => by
    have := idx_of h
    cases t <;> first | rfl | cases this
  | .down, t, h => by
    have := idx_of h
    cases t <;> first | rfl | cases this
  | .ite u a b, t, h => by
    have := idx_of h
    cases t with
    | ite u' a' b' =>
      simp only [encS, D.tup.injEq, List.cons.injEq, and_true, true_and] at h
      rw [encT_inj h.1, encSs_inj a a' h.2.1, encSs_inj b b' h.2.2]
    | _ => cases this
theorem encSs_inj : ∀ a b : List Stm, encSs a = encSs b → a = b
  | [], [], _ => rfl
  | [], _ :: _, h => by simp [encSs] at h
  | _ :: _, [], h => by simp [encSs] at h
  | s :: a, t :: b, h => by
    simp only [encSs, List.cons.injEq] at h
    rw [encS_inj s t h.1, encSs_inj a b h.2]
end
theorem encB_inj {a b : List Stm} (h : encB a = encB b) : a = b := by
  simp only [encB, D.tup.injEq] at h
  exact encSs_inj a b h
theorem encL_inj {a b : Loop} (h : encL a = encL b) : a = b := by
  cases a; cases b
  simp only [encL, D.tup.injEq, List.cons.injEq, D.int.injEq, and_true] at h
  obtain ⟨rfl, rfl, rfl, h⟩ := h
  rw [encB_inj h]
end Kt
set_option Elab.async false
set_option linter.all false
set_option maxRecDepth 100000
set_option maxHeartbeats 4000000
/-! the runs of the program's defs (printed by gen2.py) -/
namespace Kt
open PySem PySem.Spec L2 Pl
def r_is_counted (F_is_number : RFn) : RS := (rSeq (rIfS (rOr (rTest (rOp fNe (rLenK (rkVar 0)) (rC (.int 2)))) (rTest (rOp (fIn true) (rIxK (rkVar 0) (rC (.int 0))) (rVar 1)))) (rRet (rC (.bl false))) rNext)
      (rRet (rCall 3 F_is_number (rCons (rIxK (rkVar 0) (rC (.int 1))) (rCons (rTabG tab_LEAST_NUMBERS (rIxK (rkVar 0) (rC (.int 0)))) (rCons (rC (.int 8)) rNil))))))
def r_is_worded : RS := (rRet (rAndV (rCallB fIsi (rCons (rVar 0) (rCons (rC (.ty "tuple")) rNil))) (rAndV (rOp fNe (rVar 0) (rTup rNil)) (rCallB fIsi (rCons (rIxK (rkVar 0) (rC (.int 0))) (rCons (rC (.ty "str")) rNil))))))
def r_is_body (F_is_statement : RFn) : RS := (rRet (rAndV (rCallB fIsi (rCons (rVar 0) (rCons (rC (.ty "tuple")) rNil))) (rAndV (rOp fLe (rLenK (rkVar 0)) (rC (.int 8))) (rCallB fAll (rCons (rLc (rIter (rVar 0)) (rgName 2) rYes (rCall 2 F_is_statement (rCons (rVar 2) (rCons (rVar 1) rNil))) [2]) rNil)))))
def r_is_statement (F_is_counted : RFn) (F_is_body : RFn) (F_is_test : RFn) (F_is_worded : RFn) : RS := (rSeq (rIfS (rOr (rNot (rTest (rCall 1 F_is_worded (rCons (rVar 0) rNil)))) (rTest (rOp fLt (rVar 1) (rC (.int 1))))) (rRet (rC (.bl false))) rNext)
      (rSeq (rIfS (rTest (rOp fEq (rIxK (rkVar 0) (rC (.int 0))) (rC (.str "if")))) (rRet (rAndV (rOp fEq (rLenK (rkVar 0)) (rC (.int 4))) (rAndV (rCall 1 F_is_test (rCons (rIxK (rkVar 0) (rC (.int 1))) rNil)) (rCallB fAll (rCons (rLc (rIter (rSl (rVar 0) (some (rC (.int 2))) none)) (rgName 2) rYes (rCall 2 F_is_body (rCons (rVar 2) (rCons (rOp fSub (rVar 1) (rC (.int 1))) rNil))) [2]) rNil))))) rNext)
      (rSeq (rIfS (rTest (rOp (fIn false) (rVar 0) (rTup (rCons (rTup (rCons (rC (.str "until")) rNil)) (rCons (rTup (rCons (rC (.str "up")) rNil)) (rCons (rTup (rCons (rC (.str "down")) rNil)) rNil)))))) (rRet (rC (.bl true))) rNext)
      (rRet (rCall 2 F_is_counted (rCons (rVar 0) (rCons (rTup (rCons (rC (.str "wait")) (rCons (rC (.str "rest")) (rCons (rC (.str "move")) (rCons (rC (.str "ahead")) (rCons (rC (.str "set")) rNil)))))) rNil)))))))
def r_bodies_of : RS := (rRet (rIf (rTest (rOp fEq (rIxK (rkVar 0) (rC (.int 0))) (rC (.str "if")))) (rCallB fListA (rCons (rSl (rVar 0) (some (rC (.int 2))) none) rNil)) (rLst rNil)))
def r_listed (F_bodies_of : RFn) (F_listed : RFn) : RS := (rSeq (rSet 1 (rLst rNil))
      (rSeq (rFor (rIter (rVar 0)) (rgName 2)
      (rSeq (rSet 1 (rOp fAdd (rVar 1) (rLst (rCons (rVar 2) rNil))))
      (rFor (rIter (rCall 1 F_bodies_of (rCons (rVar 2) rNil))) (rgName 3)
      (rSet 1 (rOp fAdd (rVar 1) (rCall 1 F_listed (rCons (rVar 3) rNil)))))))
      (rRet (rVar 1))))
def r_is_time (F_is_number : RFn) : RS := (rRet (rCall 3 F_is_number (rCons (rVar 2) (rCons (rOp fMul (rVar 1) (rIxK (rkVar 0) (rC (.int 0)))) (rCons (rOp fMul (rVar 1) (rIxK (rkVar 0) (rC (.int 1)))) rNil)))))
def r_begun : RS := (rRet (rTup (rCons (rC (.int 0)) (rCons (rOp fMul (rUn fNeg (rVar 1)) (rIxK (rkVar 0) (rC (.int 2)))) (rCons (rC (.bl false)) rNil)))))
def r_holds : RS := (rSeq (rIfS (rTest (rOp fEq (rIxK (rkVar 0) (rC (.int 0))) (rC (.str "flag")))) (rRet (rVar 2)) rNext)
      (rRet (rIf (rTest (rOp fEq (rIxK (rkVar 0) (rC (.int 0))) (rC (.str "due")))) (rOp fGe (rVar 1) (rC (.int 0))) (rOp fGt (rVar 1) (rOp fMul (rVar 3) (rIxK (rkVar 0) (rC (.int 1))))))))
def r_waited : RS := (rSeq (rIfS (rTest (rOp fEq (rIxK (rkVar 0) (rC (.int 0))) (rC (.str "wait")))) (rRet (rOp fMul (rVar 3) (rIxK (rkVar 0) (rC (.int 1))))) rNext)
      (rSeq (rIfS (rTest (rOp fEq (rIxK (rkVar 0) (rC (.int 0))) (rC (.str "until")))) (rRet (rCallB fMax2 (rCons (rC (.int 0)) (rCons (rUn fNeg (rVar 2)) rNil)))) rNext)
      (rRet (rIf (rTest (rOp fEq (rIxK (rkVar 0) (rC (.int 0))) (rC (.str "rest")))) (rCallB fMax2 (rCons (rC (.int 0)) (rCons (rOp fSub (rOp fMul (rVar 3) (rIxK (rkVar 0) (rC (.int 1)))) (rVar 1)) rNil))) (rC (.int 0))))))
def r_marked : RS := (rSeq (rIfS (rTest (rOp fEq (rIxK (rkVar 0) (rC (.int 0))) (rC (.str "set")))) (rRet (rOp fMul (rUn fNeg (rVar 2)) (rIxK (rkVar 0) (rC (.int 1))))) rNext)
      (rSeq (rIfS (rTest (rOp fEq (rIxK (rkVar 0) (rC (.int 0))) (rC (.str "move")))) (rRet (rOp fSub (rVar 1) (rOp fMul (rVar 2) (rIxK (rkVar 0) (rC (.int 1)))))) rNext)
      (rSeq (rIfS (rAnd (rTest (rOp fEq (rIxK (rkVar 0) (rC (.int 0))) (rC (.str "ahead")))) (rTest (rOp fGe (rVar 1) (rC (.int 0))))) (rRet (rOp fSub (rVar 1) (rOp fMul (rOp fMul (rVar 2) (rIxK (rkVar 0) (rC (.int 1)))) (rOp fAdd (rOp fDiv (rVar 1) (rOp fMul (rVar 2) (rIxK (rkVar 0) (rC (.int 1))))) (rC (.int 1)))))) rNext)
      (rRet (rVar 1)))))
def r_body_done (F_bodies_of : RFn) (F_listed : RFn) (F_body_done : RFn) (F_holds : RFn) (F_marked : RFn) (F_waited : RFn) : RS := (rSeq (rAsg (rVar 2) (rgTup 4 (rgCons (rgName 4) (rgCons (rgName 5) (rgCons (rgName 6) (rgCons (rgName 7) rgNil))))))
      (rSeq (rFor (rIter (rVar 0)) (rgName 8)
      (rSeq (rSet 7 (rOp fAdd (rVar 7) (rTup (rCons (rVar 1) rNil))))
      (rSeq (rIfS (rTest (rOp fEq (rIxK (rkVar 8) (rC (.int 0))) (rC (.str "if")))) (rSeq (rSet 9 (rCall 4 F_holds (rCons (rIxK (rkVar 8) (rC (.int 1))) (rCons (rVar 5) (rCons (rVar 6) (rCons (rVar 3) rNil))))))
      (rSeq (rSet 10 (rOp fAdd (rOp fAdd (rVar 1) (rC (.int 1))) (rIf (rTest (rVar 9)) (rC (.int 0)) (rLenK (rkOf (rCall 1 F_listed (rCons (rIxK (rkVar 8) (rC (.int 2))) rNil)))))))
      (rSeq (rSet 2 (rCall 4 F_body_done (rCons (rIxK (rkVar 8) (rIf (rTest (rVar 9)) (rC (.int 2)) (rC (.int 3)))) (rCons (rVar 10) (rCons (rTup (rCons (rVar 4) (rCons (rVar 5) (rCons (rVar 6) (rCons (rVar 7) rNil))))) (rCons (rVar 3) rNil))))))
      (rAsg (rVar 2) (rgTup 4 (rgCons (rgName 4) (rgCons (rgName 5) (rgCons (rgName 6) (rgCons (rgName 7) rgNil))))))))) (rIfS (rTest (rOp (fIn false) (rIxK (rkVar 8) (rC (.int 0))) (rTup (rCons (rC (.str "up")) (rCons (rC (.str "down")) rNil))))) (rSet 6 (rOp fEq (rIxK (rkVar 8) (rC (.int 0))) (rC (.str "up")))) (rSeq (rSet 11 (rCall 4 F_waited (rCons (rVar 8) (rCons (rVar 4) (rCons (rVar 5) (rCons (rVar 3) rNil))))))
      (rPar 4 5 (rCons (rOp fAdd (rVar 4) (rVar 11)) (rCons (rCall 3 F_marked (rCons (rVar 8) (rCons (rOp fAdd (rVar 5) (rVar 11)) (rCons (rVar 3) rNil)))) rNil))))))
      (rSet 1 (rOp fAdd (rOp fAdd (rVar 1) (rC (.int 1))) (rCallB fSum (rCons (rLc (rIter (rCall 1 F_bodies_of (rCons (rVar 8) rNil))) (rgName 10) rYes (rLenK (rkOf (rCall 1 F_listed (rCons (rVar 10) rNil)))) [10]) rNil)))))))
      (rRet (rTup (rCons (rVar 4) (rCons (rVar 5) (rCons (rVar 6) (rCons (rVar 7) rNil))))))))
def r_round_done (F_body_done : RFn) : RS := (rSeq (rAsg (rVar 1) (rgTup 3 (rgCons (rgName 4) (rgCons (rgName 5) (rgCons (rgName 6) rgNil)))))
      (rSeq (rAsg (rCall 4 F_body_done (rCons (rIxK (rkVar 0) (rC (.int 3))) (rCons (rC (.int 0)) (rCons (rTup (rCons (rVar 2) (rCons (rOp fAdd (rVar 5) (rVar 2)) (rCons (rVar 6) (rCons (rTup rNil) rNil))))) (rCons (rVar 3) rNil))))) (rgTup 4 (rgCons (rgName 7) (rgCons (rgName 5) (rgCons (rgName 6) (rgCons (rgName 8) rgNil))))))
      (rRet (rTup (rCons (rTup (rCons (rOp fAdd (rVar 4) (rVar 7)) (rCons (rVar 5) (rCons (rVar 6) rNil)))) (rCons (rVar 8) rNil))))))
def r_states_of (F_round_done : RFn) (F_begun : RFn) : RS := (rSeq (rSet 2 (rCall 2 F_begun (rCons (rVar 0) (rCons (rIxK (rkVar 1) (rC (.int 0))) rNil))))
      (rSeq (rParX [3, 4] (rxVal (rLst (rCons (rVar 2) rNil)) (rxOwn roDct rxNil)))
      (rSeq (rFor (rIter (rIxK (rkVar 1) (rC (.int 1)))) (rgName 5)
      (rSeq (rAsg (rCall 4 F_round_done (rCons (rVar 0) (rCons (rVar 2) (rCons (rVar 5) (rCons (rIxK (rkVar 1) (rC (.int 0))) rNil))))) (rgTup 2 (rgCons (rgName 2) (rgCons (rgName 6) rgNil))))
      (rSeq (rSet 3 (rOp fAdd (rVar 3) (rLst (rCons (rVar 2) rNil))))
      (rFor (rIter (rVar 6)) (rgName 7)
      (rStore (rC (.bl true)) (rkVar 4) (rVar 7))))))
      (rRet (rTup (rCons (rVar 3) (rCons (rVar 4) rNil)))))))
def r_moments (F_states_of : RFn) : RS := (rRet (rLc (rIter (rIxK (rkOf (rCall 2 F_states_of (rCons (rVar 0) (rCons (rVar 1) rNil)))) (rC (.int 0)))) (rgName 2) rYes (rIxK (rkVar 2) (rC (.int 0))) [2]))
def r_starts (F_moments : RFn) (F_need_row : RFn) : RS := (rSeq (rDrop (rCall 2 F_need_row (rCons (rVar 0) (rCons (rVar 1) rNil))))
      (rRet (rCall 2 F_moments (rCons (rVar 0) (rCons (rVar 1) rNil)))))
def r_latenesses (F_states_of : RFn) (F_need_row : RFn) : RS := (rSeq (rDrop (rCall 2 F_need_row (rCons (rVar 0) (rCons (rVar 1) rNil))))
      (rRet (rLc (rIter (rIxK (rkOf (rCall 2 F_states_of (rCons (rVar 0) (rCons (rVar 1) rNil)))) (rC (.int 0)))) (rgName 2) rYes (rIxK (rkVar 2) (rC (.int 1))) [2])))
def r_done (F_states_of : RFn) (F_need_row : RFn) : RS := (rSeq (rDrop (rCall 2 F_need_row (rCons (rVar 0) (rCons (rVar 1) rNil))))
      (rRet (rCallB fSorted (rCons (rCallB fListA (rCons (rIxK (rkOf (rCall 2 F_states_of (rCons (rVar 0) (rCons (rVar 1) rNil)))) (rC (.int 1))) rNil)) rNil))))
def F_is_counted : RFn := runD 2 (r_is_counted (S_is_number))
def F_is_worded : RFn := runD 1 (r_is_worded)
mutual
def F_is_body : Nat → RFn
  | 0 => fun _ _ => .bad
  | n + 1 => runD 3 (r_is_body (F_is_statement n))
def F_is_statement : Nat → RFn
  | 0 => fun _ _ => .bad
  | n + 1 => runD 3 (r_is_statement (F_is_counted) (F_is_body n) (S_is_test) (F_is_worded))
end
def F_bodies_of : RFn := runD 1 (r_bodies_of)
def F_listed : Nat → RFn
  | 0 => fun _ _ => .bad
  | n + 1 => runD 4 (r_listed (F_bodies_of) (F_listed n))
def F_is_time : RFn := runD 3 (r_is_time (S_is_number))
def F_begun : RFn := runD 2 (r_begun)
def F_holds : RFn := runD 4 (r_holds)
def F_waited : RFn := runD 4 (r_waited)
def F_marked : RFn := runD 3 (r_marked)
def F_body_done : Nat → RFn
  | 0 => fun _ _ => .bad
  | n + 1 => runD 12 (r_body_done (F_bodies_of) (F_listed 9) (F_body_done n) (F_holds) (F_marked) (F_waited))
def F_round_done : RFn := runD 9 (r_round_done (F_body_done 9))
def F_states_of : RFn := runD 8 (r_states_of (F_round_done) (F_begun))
def F_moments : RFn := runD 3 (r_moments (F_states_of))
def F_starts (C_InvalidLoop : Addr) (C_InvalidRow : Addr) : RFn := runD 2 (r_starts (F_moments) (S_need_row C_InvalidLoop C_InvalidRow))
def F_latenesses (C_InvalidLoop : Addr) (C_InvalidRow : Addr) : RFn := runD 3 (r_latenesses (F_states_of) (S_need_row C_InvalidLoop C_InvalidRow))
def F_done (C_InvalidLoop : Addr) (C_InvalidRow : Addr) : RFn := runD 2 (r_done (F_states_of) (S_need_row C_InvalidLoop C_InvalidRow))
end Kt
set_option Elab.async false
set_option linter.all false
set_option maxRecDepth 100000
set_option maxHeartbeats 1000000
/-! KtC1: what the runs tell: statements, rounds -/
namespace Kt
open PySem PySem.Spec L2 Pl
theorem eS_wait (n : Int) : encS (.wait n) = .tup [.str "wait", .int n] := rfl
theorem eS_rest (n : Int) : encS (.rest n) = .tup [.str "rest", .int n] := rfl
theorem eS_move (n : Int) : encS (.move n) = .tup [.str "move", .int n] := rfl
theorem eS_ahead (n : Int) : encS (.ahead n) = .tup [.str "ahead", .int n] := rfl
theorem eS_set (n : Int) : encS (.set n) = .tup [.str "set", .int n] := rfl
theorem eS_until : encS .until = .tup [.str "until"] := rfl
theorem eS_up : encS .up = .tup [.str "up"] := rfl
theorem eS_down : encS .down = .tup [.str "down"] := rfl
theorem eS_ite (t : Tst) (a b : List Stm) : encS (.ite t a b) = .tup [.str "if", encT t, encB a, encB b] := rfl
theorem wS_wait (n : Int) : wordS (.wait n) = "wait" := rfl
theorem wS_rest (n : Int) : wordS (.rest n) = "rest" := rfl
theorem wS_move (n : Int) : wordS (.move n) = "move" := rfl
theorem wS_ahead (n : Int) : wordS (.ahead n) = "ahead" := rfl
theorem wS_set (n : Int) : wordS (.set n) = "set" := rfl
theorem wS_until : wordS .until = "until" := rfl
theorem wS_up : wordS .up = "up" := rfl
theorem wS_down : wordS .down = "down" := rfl
theorem wS_ite (t : Tst) (a b : List Stm) : wordS (.ite t a b) = "if" := rfl
theorem con_T (S : Sta) (t : Tst) : con S (.val (encT t)) = .val (encT t) := by cases t <;> rfl
def wordT : Tst → Str
  | .due => "due"
  | .flag => "flag"
  | .late _ => "late"
theorem ixT_0 (t : Tst) : fixC (.val (encT t)) (.int 0) = some (.str (wordT t)) := by cases t <;> rfl
theorem ixT_late (n : Int) : fixC (.val (encT (.late n))) (.int 1) = some (.int n) := rfl
theorem wT_due : wordT .due = "due" := rfl
theorem wT_flag : wordT .flag = "flag" := rfl
theorem wT_late (n : Int) : wordT (.late n) = "late" := rfl
theorem con_S (S : Sta) (s : Stm) : con S (.val (encS s)) = .val (encS s) := by cases s <;> rfl
theorem ixS_0 (s : Stm) : fixC (.val (encS s)) (.int 0) = some (.str (wordS s)) := by cases s <;> rfl
theorem ixS_wait (n : Int) : fixC (.val (encS (.wait n))) (.int 1) = some (.int n) := rfl
theorem ixS_rest (n : Int) : fixC (.val (encS (.rest n))) (.int 1) = some (.int n) := rfl
theorem ixS_move (n : Int) : fixC (.val (encS (.move n))) (.int 1) = some (.int n) := rfl
theorem ixS_ahead (n : Int) : fixC (.val (encS (.ahead n))) (.int 1) = some (.int n) := rfl
theorem ixS_set (n : Int) : fixC (.val (encS (.set n))) (.int 1) = some (.int n) := rfl
theorem ixS_ite1 (t : Tst) (a b : List Stm) : fixC (.val (encS (.ite t a b))) (.int 1) = some (encT t) := rfl
theorem ixS_ite2 (t : Tst) (a b : List Stm) : fixC (.val (encS (.ite t a b))) (.int 2) = some (encB a) := rfl
theorem ixS_ite3 (t : Tst) (a b : List Stm) : fixC (.val (encS (.ite t a b))) (.int 3) = some (encB b) := rfl
theorem encB_t (b : List Stm) : encB b = .tup (b.map encS) := by rw [encB, encSs_map]
theorem F_bodies_of_ok (s : Stm) (W : Wt) : F_bodies_of [encS s] W = .rt (.lst (bodD s)) W := by
  unfold F_bodies_of r_bodies_of
  cases s <;> simp only [eS_wait, eS_rest, eS_move, eS_ahead, eS_set, eS_until, eS_up, eS_down, eS_ite, bodD, ↓zzU, ↓zzP, zzQ, start0, List.map_cons, List.map_nil, List.length_cons, List.length_nil, List.cons_append, List.nil_append, List.replicate, D.bl.injEq, D.int.injEq, D.str.injEq, D.tup.injEq, D.lst.injEq, Option.some.injEq, Option.isSome_some, Bool.false_eq_true, if_true, if_false, true_and, and_true, false_and, and_false, Bool.not_true, Bool.not_false, Nat.reduceAdd, Nat.reduceSub, Nat.sub_self, Nat.zero_add, List.any_cons, List.any_nil, Bool.or_false, Bool.and_true, List.isEmpty_nil, List.isEmpty_cons, Bool.and_false, Bool.or_true, Bool.false_or, Bool.true_or, Bool.false_and, Bool.true_and, List.foldr_cons, List.foldr_nil, List.set_cons_zero, List.set_cons_succ, Nat.reduceEqDiff, beq_self_eq_true, eq_self, decide_true, decide_false, ↓zP1, zQ1, zzW]
theorem szl {n m : Nat} (h : n ≤ m) (hm : m ≤ 16777216 := by decide) : n ≤ sizeLine := by show n ≤ 2 ^ 24; omega
theorem F_listed_ok (W : Wt) : ∀ (n d : Nat) (b : List Stm), d < n → d ≤ 4 → okB d b = true → F_listed n [encB b] W = .rt (.lst ((listedB b).map encS)) W
  | 0, _, _, h, _, _ => by omega
  | n + 1, d, b, hd, h4, hb => by
    obtain ⟨h8, hs⟩ := okB_iff.mp hb
    have hB := F_bodies_of_ok
    have big : (listedB b).length ≤ 37448 := Nat.le_trans (okB_bnd hb) (Nat.le_trans (bnd_mono h4) (by decide))
    have ih : ∀ b' W', okB (d - 1) b' = true → 0 < d → F_listed n [encB b'] W' = .rt (.lst ((listedB b').map encS)) W' := fun b' W' h hp => F_listed_ok W' n (d - 1) b' (by omega) (by omega) h
    unfold F_listed r_listed
    simp only [encB, encSs_map, ↓zzU, ↓zzP, zzQ, start0, List.map_cons, List.map_nil, List.length_cons, List.length_nil, List.cons_append, List.nil_append, List.replicate, D.bl.injEq, D.int.injEq, D.str.injEq, D.tup.injEq, D.lst.injEq, Option.some.injEq, Option.isSome_some, Bool.false_eq_true, if_true, if_false, true_and, and_true, false_and, and_false, Bool.not_true, Bool.not_false, Nat.reduceAdd, Nat.reduceSub, Nat.sub_self, Nat.zero_add, List.any_cons, List.any_nil, Bool.or_false, Bool.and_true, List.isEmpty_nil, List.isEmpty_cons, Bool.and_false, Bool.or_true, Bool.false_or, Bool.true_or, Bool.false_and, Bool.true_and, List.foldr_cons, List.foldr_nil, List.set_cons_zero, List.set_cons_succ, Nat.reduceEqDiff, beq_self_eq_true, eq_self, decide_true, decide_false, ↓zP4, zQ4, zzW]
    refine forR_inv encS (fun r S => ∃ A s2 s3, S = ⟨[.val (encB b), .val (.lst A), s2, s3], W⟩ ∧ (∀ s ∈ r, okS d s = true) ∧ A ++ (listedB r).map encS = (listedB b).map encS) ?_ ?_ b _ ⟨[], _, _, by rw [encB, encSs_map], hs, rfl⟩
    · rintro S ⟨A, s2, s3, rfl, _, e⟩
      simp only [↓zzU, ↓zzP, zzQ, start0, List.map_cons, List.map_nil, List.length_cons, List.length_nil, List.cons_append, List.nil_append, List.replicate, D.bl.injEq, D.int.injEq, D.str.injEq, D.tup.injEq, D.lst.injEq, Option.some.injEq, Option.isSome_some, Bool.false_eq_true, if_true, if_false, true_and, and_true, false_and, and_false, Bool.not_true, Bool.not_false, Nat.reduceAdd, Nat.reduceSub, Nat.sub_self, Nat.zero_add, List.any_cons, List.any_nil, Bool.or_false, Bool.and_true, List.isEmpty_nil, List.isEmpty_cons, Bool.and_false, Bool.or_true, Bool.false_or, Bool.true_or, Bool.false_and, Bool.true_and, List.foldr_cons, List.foldr_nil, List.set_cons_zero, List.set_cons_succ, Nat.reduceEqDiff, beq_self_eq_true, eq_self, decide_true, decide_false, ↓zP4, zQ4, zzW]
      rw [listedB, List.map_nil, List.append_nil] at e
      rw [e]
    · rintro s r S ⟨A, s2, s3, rfl, hr, e⟩ k hk
      have hs' := hr s (List.mem_cons_self ..)
      have hr' : ∀ x ∈ r, okS d x = true := fun x hx => hr x (List.mem_cons_of_mem _ hx)
      have e2 := congrArg List.length e
      simp only [listedB, List.length_append, List.length_map] at e2
      have pos := listedS_pos s
      simp only [List.length_map, hB, ↓zzU, ↓zzP, zzQ, start0, List.map_cons, List.map_nil, List.length_cons, List.length_nil, List.cons_append, List.nil_append, List.replicate, D.bl.injEq, D.int.injEq, D.str.injEq, D.tup.injEq, D.lst.injEq, Option.some.injEq, Option.isSome_some, Bool.false_eq_true, if_true, if_false, true_and, and_true, false_and, and_false, Bool.not_true, Bool.not_false, Nat.reduceAdd, Nat.reduceSub, Nat.sub_self, Nat.zero_add, List.any_cons, List.any_nil, Bool.or_false, Bool.and_true, List.isEmpty_nil, List.isEmpty_cons, Bool.and_false, Bool.or_true, Bool.false_or, Bool.true_or, Bool.false_and, Bool.true_and, List.foldr_cons, List.foldr_nil, List.set_cons_zero, List.set_cons_succ, Nat.reduceEqDiff, beq_self_eq_true, eq_self, decide_true, decide_false, ↓zP4, zQ4, zzW]
      rw [if_pos (szl (m := 40000) (by omega))]
      cases s with
      | ite t x y =>
        obtain ⟨d, rfl⟩ : ∃ e, d = e + 1 := by cases d with | zero => simp [okS] at hs' | succ d => exact ⟨d, rfl⟩
        obtain ⟨_, hx, hy⟩ := okS_ite.mp hs'
        have i1 := ih x W hx (by omega)
        have i2 := ih y W hy (by omega)
        simp only [listedS, List.length_cons, List.length_append] at e2
        simp only [bodD, forR_cons, i1, i2, List.length_append, List.length_map, ↓zzU, ↓zzP, zzQ, start0, List.map_cons, List.map_nil, List.length_cons, List.length_nil, List.cons_append, List.nil_append, List.replicate, D.bl.injEq, D.int.injEq, D.str.injEq, D.tup.injEq, D.lst.injEq, Option.some.injEq, Option.isSome_some, Bool.false_eq_true, if_true, if_false, true_and, and_true, false_and, and_false, Bool.not_true, Bool.not_false, Nat.reduceAdd, Nat.reduceSub, Nat.sub_self, Nat.zero_add, List.any_cons, List.any_nil, Bool.or_false, Bool.and_true, List.isEmpty_nil, List.isEmpty_cons, Bool.and_false, Bool.or_true, Bool.false_or, Bool.true_or, Bool.false_and, Bool.true_and, List.foldr_cons, List.foldr_nil, List.set_cons_zero, List.set_cons_succ, Nat.reduceEqDiff, beq_self_eq_true, eq_self, decide_true, decide_false, ↓zP4, zQ4, zzW]
        rw [if_pos (szl (m := 40000) (by omega)), if_pos (szl (m := 40000) (by omega))]
        refine hk _ ⟨_, _, _, rfl, hr', ?_⟩
        rw [← e]
        simp only [listedB, listedS, List.map_append, List.map_cons, List.append_assoc, List.cons_append, List.nil_append]
      | _ =>
        simp only [bodD, ↓zzU, ↓zzP, zzQ, start0, List.map_cons, List.map_nil, List.length_cons, List.length_nil, List.cons_append, List.nil_append, List.replicate, D.bl.injEq, D.int.injEq, D.str.injEq, D.tup.injEq, D.lst.injEq, Option.some.injEq, Option.isSome_some, Bool.false_eq_true, if_true, if_false, true_and, and_true, false_and, and_false, Bool.not_true, Bool.not_false, Nat.reduceAdd, Nat.reduceSub, Nat.sub_self, Nat.zero_add, List.any_cons, List.any_nil, Bool.or_false, Bool.and_true, List.isEmpty_nil, List.isEmpty_cons, Bool.and_false, Bool.or_true, Bool.false_or, Bool.true_or, Bool.false_and, Bool.true_and, List.foldr_cons, List.foldr_nil, List.set_cons_zero, List.set_cons_succ, Nat.reduceEqDiff, beq_self_eq_true, eq_self, decide_true, decide_false, ↓zP4, zQ4, zzW]
        refine hk _ ⟨_, _, _, rfl, hr', ?_⟩
        rw [← e]
        simp only [listedB, listedS, List.map_append, List.map_cons, List.append_assoc, List.cons_append, List.nil_append]
end Kt
set_option Elab.async false
set_option linter.all false
set_option maxRecDepth 100000
set_option maxHeartbeats 1000000
/-! KtC2: what the runs tell: rounds -/
namespace Kt
open PySem PySem.Spec L2 Pl
theorem mulR {g n a b : Int} (h : inR a b n = true) (ha : 0 ≤ a) (hb : b ≤ 1000) : cMul g n = true := by
  simp only [inR, Bool.and_eq_true, decide_eq_true_eq] at h
  simp only [cMul, Bool.or_eq_true, Bool.and_eq_true, decide_eq_true_eq]
  exact .inr ⟨by omega, by omega⟩
theorem F_begun_ok (L : Loop) (g : Int) (W : Wt) (h : okL L = true) : F_begun [encL L, .int g] W = .rt (.tup [.int 0, .int (-g * L.first), .bl false]) W := by
  obtain ⟨⟨_, _, _, h4, h5⟩, _⟩ := okL_iff.mp h
  have m : cMul (-g) L.first = true := mulR (a := 0) (b := 8) (by simp only [inR, Bool.and_eq_true, decide_eq_true_eq]; omega) (by decide) (by decide)
  unfold F_begun r_begun
  simp only [encL, m, ↓zzU, ↓zzP, zzQ, start0, List.map_cons, List.map_nil, List.length_cons, List.length_nil, List.cons_append, List.nil_append, List.replicate, D.bl.injEq, D.int.injEq, D.str.injEq, D.tup.injEq, D.lst.injEq, Option.some.injEq, Option.isSome_some, Bool.false_eq_true, if_true, if_false, true_and, and_true, false_and, and_false, Bool.not_true, Bool.not_false, Nat.reduceAdd, Nat.reduceSub, Nat.sub_self, Nat.zero_add, List.any_cons, List.any_nil, Bool.or_false, Bool.and_true, List.isEmpty_nil, List.isEmpty_cons, Bool.and_false, Bool.or_true, Bool.false_or, Bool.true_or, Bool.false_and, Bool.true_and, List.foldr_cons, List.foldr_nil, List.set_cons_zero, List.set_cons_succ, Nat.reduceEqDiff, beq_self_eq_true, eq_self, decide_true, decide_false, ↓zP2, zQ2, zzW]
theorem F_holds_ok (t : Tst) (late : Int) (flag : Bool) (g : Int) (W : Wt) (h : okT t = true) : F_holds [encT t, .int late, .bl flag, .int g] W = .rt (.bl (holdsT t late flag g)) W := by
  unfold F_holds r_holds
  cases t with
  | late n =>
    have m : cMul g n = true := mulR h (by decide) (by decide)
    simp only [encT, holdsT, m, ↓zzU, ↓zzP, zzQ, start0, List.map_cons, List.map_nil, List.length_cons, List.length_nil, List.cons_append, List.nil_append, List.replicate, D.bl.injEq, D.int.injEq, D.str.injEq, D.tup.injEq, D.lst.injEq, Option.some.injEq, Option.isSome_some, Bool.false_eq_true, if_true, if_false, true_and, and_true, false_and, and_false, Bool.not_true, Bool.not_false, Nat.reduceAdd, Nat.reduceSub, Nat.sub_self, Nat.zero_add, List.any_cons, List.any_nil, Bool.or_false, Bool.and_true, List.isEmpty_nil, List.isEmpty_cons, Bool.and_false, Bool.or_true, Bool.false_or, Bool.true_or, Bool.false_and, Bool.true_and, List.foldr_cons, List.foldr_nil, List.set_cons_zero, List.set_cons_succ, Nat.reduceEqDiff, beq_self_eq_true, eq_self, decide_true, decide_false, ↓zP4, zQ4, zzW]
  | _ => simp only [encT, holdsT, ↓zzU, ↓zzP, zzQ, start0, List.map_cons, List.map_nil, List.length_cons, List.length_nil, List.cons_append, List.nil_append, List.replicate, D.bl.injEq, D.int.injEq, D.str.injEq, D.tup.injEq, D.lst.injEq, Option.some.injEq, Option.isSome_some, Bool.false_eq_true, if_true, if_false, true_and, and_true, false_and, and_false, Bool.not_true, Bool.not_false, Nat.reduceAdd, Nat.reduceSub, Nat.sub_self, Nat.zero_add, List.any_cons, List.any_nil, Bool.or_false, Bool.and_true, List.isEmpty_nil, List.isEmpty_cons, Bool.and_false, Bool.or_true, Bool.false_or, Bool.true_or, Bool.false_and, Bool.true_and, List.foldr_cons, List.foldr_nil, List.set_cons_zero, List.set_cons_succ, Nat.reduceEqDiff, beq_self_eq_true, eq_self, decide_true, decide_false, ↓zP4, zQ4, zzW]
theorem F_waited_ok (s : Stm) (gone late g : Int) (d : Nat) (W : Wt) (h : okS d s = true) : F_waited [encS s, .int gone, .int late, .int g] W = .rt (.int (waitS s gone late g)) W := by
  unfold F_waited r_waited
  cases d with
  | zero => simp [okS] at h
  | succ d =>
  cases s with
  | wait n =>
    have m : cMul g n = true := mulR h (by decide) (by decide)
    simp only [con_S, ixS_0, ixS_wait, ixS_rest, ixS_move, ixS_ahead, ixS_set, ixS_ite1, ixS_ite2, ixS_ite3, wS_wait, wS_rest, wS_move, wS_ahead, wS_set, wS_until, wS_up, wS_down, wS_ite, waitS, m, ↓zzU, ↓zzP, zzQ, start0, List.map_cons, List.map_nil, List.length_cons, List.length_nil, List.cons_append, List.nil_append, List.replicate, D.bl.injEq, D.int.injEq, D.str.injEq, D.tup.injEq, D.lst.injEq, Option.some.injEq, Option.isSome_some, Bool.false_eq_true, if_true, if_false, true_and, and_true, false_and, and_false, Bool.not_true, Bool.not_false, Nat.reduceAdd, Nat.reduceSub, Nat.sub_self, Nat.zero_add, List.any_cons, List.any_nil, Bool.or_false, Bool.and_true, List.isEmpty_nil, List.isEmpty_cons, Bool.and_false, Bool.or_true, Bool.false_or, Bool.true_or, Bool.false_and, Bool.true_and, List.foldr_cons, List.foldr_nil, List.set_cons_zero, List.set_cons_succ, Nat.reduceEqDiff, beq_self_eq_true, eq_self, decide_true, decide_false, ↓zP4, zQ4, zzW]
  | rest n =>
    have m : cMul g n = true := mulR h (by decide) (by decide)
    simp only [con_S, ixS_0, ixS_wait, ixS_rest, ixS_move, ixS_ahead, ixS_set, ixS_ite1, ixS_ite2, ixS_ite3, wS_wait, wS_rest, wS_move, wS_ahead, wS_set, wS_until, wS_up, wS_down, wS_ite, waitS, m, gMax, ↓zzU, ↓zzP, zzQ, start0, List.map_cons, List.map_nil, List.length_cons, List.length_nil, List.cons_append, List.nil_append, List.replicate, D.bl.injEq, D.int.injEq, D.str.injEq, D.tup.injEq, D.lst.injEq, Option.some.injEq, Option.isSome_some, Bool.false_eq_true, if_true, if_false, true_and, and_true, false_and, and_false, Bool.not_true, Bool.not_false, Nat.reduceAdd, Nat.reduceSub, Nat.sub_self, Nat.zero_add, List.any_cons, List.any_nil, Bool.or_false, Bool.and_true, List.isEmpty_nil, List.isEmpty_cons, Bool.and_false, Bool.or_true, Bool.false_or, Bool.true_or, Bool.false_and, Bool.true_and, List.foldr_cons, List.foldr_nil, List.set_cons_zero, List.set_cons_succ, Nat.reduceEqDiff, beq_self_eq_true, eq_self, decide_true, decide_false, ↓zP4, zQ4, zzW]
  | «until» => simp only [con_S, ixS_0, ixS_wait, ixS_rest, ixS_move, ixS_ahead, ixS_set, ixS_ite1, ixS_ite2, ixS_ite3, wS_wait, wS_rest, wS_move, wS_ahead, wS_set, wS_until, wS_up, wS_down, wS_ite, waitS, gMax, ↓zzU, ↓zzP, zzQ, start0, List.map_cons, List.map_nil, List.length_cons, List.length_nil, List.cons_append, List.nil_append, List.replicate, D.bl.injEq, D.int.injEq, D.str.injEq, D.tup.injEq, D.lst.injEq, Option.some.injEq, Option.isSome_some, Bool.false_eq_true, if_true, if_false, true_and, and_true, false_and, and_false, Bool.not_true, Bool.not_false, Nat.reduceAdd, Nat.reduceSub, Nat.sub_self, Nat.zero_add, List.any_cons, List.any_nil, Bool.or_false, Bool.and_true, List.isEmpty_nil, List.isEmpty_cons, Bool.and_false, Bool.or_true, Bool.false_or, Bool.true_or, Bool.false_and, Bool.true_and, List.foldr_cons, List.foldr_nil, List.set_cons_zero, List.set_cons_succ, Nat.reduceEqDiff, beq_self_eq_true, eq_self, decide_true, decide_false, ↓zP4, zQ4, zzW]
  | _ => simp only [con_S, ixS_0, ixS_wait, ixS_rest, ixS_move, ixS_ahead, ixS_set, ixS_ite1, ixS_ite2, ixS_ite3, wS_wait, wS_rest, wS_move, wS_ahead, wS_set, wS_until, wS_up, wS_down, wS_ite, waitS, ↓zzU, ↓zzP, zzQ, start0, List.map_cons, List.map_nil, List.length_cons, List.length_nil, List.cons_append, List.nil_append, List.replicate, D.bl.injEq, D.int.injEq, D.str.injEq, D.tup.injEq, D.lst.injEq, Option.some.injEq, Option.isSome_some, Bool.false_eq_true, if_true, if_false, true_and, and_true, false_and, and_false, Bool.not_true, Bool.not_false, Nat.reduceAdd, Nat.reduceSub, Nat.sub_self, Nat.zero_add, List.any_cons, List.any_nil, Bool.or_false, Bool.and_true, List.isEmpty_nil, List.isEmpty_cons, Bool.and_false, Bool.or_true, Bool.false_or, Bool.true_or, Bool.false_and, Bool.true_and, List.foldr_cons, List.foldr_nil, List.set_cons_zero, List.set_cons_succ, Nat.reduceEqDiff, beq_self_eq_true, eq_self, decide_true, decide_false, ↓zP4, zQ4, zzW]
/-- what a mark's move asks -/
def aheadOk (g : Int) (late : Int) : Prop := 1 ≤ g ∧ g ≤ 10 ^ 33 ∧ late ≤ g * 2 ^ 50
theorem F_marked_ok (s : Stm) (late g : Int) (d : Nat) (W : Wt) (h : okS d s = true) (ha : aheadOk g late) : F_marked [encS s, .int late, .int g] W = .rt (.int (markS s late g)) W := by
  unfold F_marked r_marked
  cases d with
  | zero => simp [okS] at h
  | succ d =>
  cases s with
  | set n =>
    have m : cMul (-g) n = true := mulR h (by decide) (by decide)
    simp only [con_S, ixS_0, ixS_wait, ixS_rest, ixS_move, ixS_ahead, ixS_set, ixS_ite1, ixS_ite2, ixS_ite3, wS_wait, wS_rest, wS_move, wS_ahead, wS_set, wS_until, wS_up, wS_down, wS_ite, markS, m, ↓zzU, ↓zzP, zzQ, start0, List.map_cons, List.map_nil, List.length_cons, List.length_nil, List.cons_append, List.nil_append, List.replicate, D.bl.injEq, D.int.injEq, D.str.injEq, D.tup.injEq, D.lst.injEq, Option.some.injEq, Option.isSome_some, Bool.false_eq_true, if_true, if_false, true_and, and_true, false_and, and_false, Bool.not_true, Bool.not_false, Nat.reduceAdd, Nat.reduceSub, Nat.sub_self, Nat.zero_add, List.any_cons, List.any_nil, Bool.or_false, Bool.and_true, List.isEmpty_nil, List.isEmpty_cons, Bool.and_false, Bool.or_true, Bool.false_or, Bool.true_or, Bool.false_and, Bool.true_and, List.foldr_cons, List.foldr_nil, List.set_cons_zero, List.set_cons_succ, Nat.reduceEqDiff, beq_self_eq_true, eq_self, decide_true, decide_false, ↓zP3, zQ3, zzW]
  | move n =>
    have m : cMul g n = true := mulR h (by decide) (by decide)
    simp only [con_S, ixS_0, ixS_wait, ixS_rest, ixS_move, ixS_ahead, ixS_set, ixS_ite1, ixS_ite2, ixS_ite3, wS_wait, wS_rest, wS_move, wS_ahead, wS_set, wS_until, wS_up, wS_down, wS_ite, markS, m, ↓zzU, ↓zzP, zzQ, start0, List.map_cons, List.map_nil, List.length_cons, List.length_nil, List.cons_append, List.nil_append, List.replicate, D.bl.injEq, D.int.injEq, D.str.injEq, D.tup.injEq, D.lst.injEq, Option.some.injEq, Option.isSome_some, Bool.false_eq_true, if_true, if_false, true_and, and_true, false_and, and_false, Bool.not_true, Bool.not_false, Nat.reduceAdd, Nat.reduceSub, Nat.sub_self, Nat.zero_add, List.any_cons, List.any_nil, Bool.or_false, Bool.and_true, List.isEmpty_nil, List.isEmpty_cons, Bool.and_false, Bool.or_true, Bool.false_or, Bool.true_or, Bool.false_and, Bool.true_and, List.foldr_cons, List.foldr_nil, List.set_cons_zero, List.set_cons_succ, Nat.reduceEqDiff, beq_self_eq_true, eq_self, decide_true, decide_false, ↓zP3, zQ3, zzW]
  | ahead n =>
    have m : cMul g n = true := mulR h (by decide) (by decide)
    obtain ⟨h1, h2, h3⟩ := ha
    simp only [okS, inR, Bool.and_eq_true, decide_eq_true_eq] at h
    have p : 0 < g * n := Int.mul_pos (by omega) (by omega)
    have q : g * n ≤ g * 8 := Int.mul_le_mul_of_nonneg_left h.2 (by omega)
    have m2 : cDv late (g * n) = true := by
      simp only [cDv, Bool.and_eq_true, decide_eq_true_eq]
      exact ⟨p, by omega⟩
    simp only [con_S, ixS_0, ixS_wait, ixS_rest, ixS_move, ixS_ahead, ixS_set, ixS_ite1, ixS_ite2, ixS_ite3, wS_wait, wS_rest, wS_move, wS_ahead, wS_set, wS_until, wS_up, wS_down, wS_ite, markS, m, m2, dec_ite, ↓zzU, ↓zzP, zzQ, start0, List.map_cons, List.map_nil, List.length_cons, List.length_nil, List.cons_append, List.nil_append, List.replicate, D.bl.injEq, D.int.injEq, D.str.injEq, D.tup.injEq, D.lst.injEq, Option.some.injEq, Option.isSome_some, Bool.false_eq_true, if_true, if_false, true_and, and_true, false_and, and_false, Bool.not_true, Bool.not_false, Nat.reduceAdd, Nat.reduceSub, Nat.sub_self, Nat.zero_add, List.any_cons, List.any_nil, Bool.or_false, Bool.and_true, List.isEmpty_nil, List.isEmpty_cons, Bool.and_false, Bool.or_true, Bool.false_or, Bool.true_or, Bool.false_and, Bool.true_and, List.foldr_cons, List.foldr_nil, List.set_cons_zero, List.set_cons_succ, Nat.reduceEqDiff, beq_self_eq_true, eq_self, decide_true, decide_false, ↓zP3, zQ3, zzW]
    by_cases c : 0 ≤ late
    · have m3 : cMul (g * n) (late / (g * n) + 1) = true := by
        simp only [cMul, Bool.or_eq_true, Bool.and_eq_true, decide_eq_true_eq]
        have a1 : 0 ≤ late / (g * n) := Int.ediv_nonneg c (by omega)
        have a2 : late / (g * n) ≤ 2 ^ 50 := by
          refine Int.le_trans (Int.ediv_le_ediv p (show late ≤ 2 ^ 50 * (g * n) from ?_)) (by rw [Int.mul_ediv_cancel _ (by omega)]; exact Int.le_refl _)
          have : g * 1 ≤ g * n := Int.mul_le_mul_of_nonneg_left h.1 (by omega)
          omega
        exact .inr ⟨by omega, by omega⟩
      rw [if_pos c, if_pos c]
      simp only [m3, ↓zzU, ↓zzP, zzQ, start0, List.map_cons, List.map_nil, List.length_cons, List.length_nil, List.cons_append, List.nil_append, List.replicate, D.bl.injEq, D.int.injEq, D.str.injEq, D.tup.injEq, D.lst.injEq, Option.some.injEq, Option.isSome_some, Bool.false_eq_true, if_true, if_false, true_and, and_true, false_and, and_false, Bool.not_true, Bool.not_false, Nat.reduceAdd, Nat.reduceSub, Nat.sub_self, Nat.zero_add, List.any_cons, List.any_nil, Bool.or_false, Bool.and_true, List.isEmpty_nil, List.isEmpty_cons, Bool.and_false, Bool.or_true, Bool.false_or, Bool.true_or, Bool.false_and, Bool.true_and, List.foldr_cons, List.foldr_nil, List.set_cons_zero, List.set_cons_succ, Nat.reduceEqDiff, beq_self_eq_true, eq_self, decide_true, decide_false, ↓zP3, zQ3, zzW]
    · rw [if_neg c, if_neg c]
  | _ => simp only [con_S, ixS_0, ixS_wait, ixS_rest, ixS_move, ixS_ahead, ixS_set, ixS_ite1, ixS_ite2, ixS_ite3, wS_wait, wS_rest, wS_move, wS_ahead, wS_set, wS_until, wS_up, wS_down, wS_ite, markS, ↓zzU, ↓zzP, zzQ, start0, List.map_cons, List.map_nil, List.length_cons, List.length_nil, List.cons_append, List.nil_append, List.replicate, D.bl.injEq, D.int.injEq, D.str.injEq, D.tup.injEq, D.lst.injEq, Option.some.injEq, Option.isSome_some, Bool.false_eq_true, if_true, if_false, true_and, and_true, false_and, and_false, Bool.not_true, Bool.not_false, Nat.reduceAdd, Nat.reduceSub, Nat.sub_self, Nat.zero_add, List.any_cons, List.any_nil, Bool.or_false, Bool.and_true, List.isEmpty_nil, List.isEmpty_cons, Bool.and_false, Bool.or_true, Bool.false_or, Bool.true_or, Bool.false_and, Bool.true_and, List.foldr_cons, List.foldr_nil, List.set_cons_zero, List.set_cons_succ, Nat.reduceEqDiff, beq_self_eq_true, eq_self, decide_true, decide_false, ↓zP3, zQ3, zzW]
/-! rounds -/
/-- how far a round's state has come -/
structure RnB (g : Int) (M : Nat) (r : Rn) : Prop where
  go : 0 ≤ r.gone
  la : r.late ≤ g * M
theorem mulM {g : Int} {a b : Nat} (hg : 1 ≤ g) (h : a ≤ b) : g * (a : Int) ≤ g * (b : Int) := Int.mul_le_mul_of_nonneg_left (by omega) (by omega)
theorem mul8 {g n : Int} (hg : 1 ≤ g) (hn : n ≤ 8) : g * n ≤ g * 8 := Int.mul_le_mul_of_nonneg_left hn (by omega)
mutual
theorem runS_bnd {g : Int} (hg : 1 ≤ g) : ∀ (s : Stm) (d : Nat) (first : Int) (r : Rn) (M : Nat), okS d s = true → RnB g M r → RnB g (M + 8 * (listedS s).length) (runS s first r g)
  | .ite t a b, 0, _, _, _, h, _ => by simp [okS] at h
  | .ite t a b, d + 1, first, r, M, h, hr => by
    obtain ⟨_, h1, h2⟩ := okS_ite.mp h
    simp only [runS, listedS, List.length_cons, List.length_append]
    split
    · have := runB_bnd hg a d (first + 1) { r with nums := r.nums ++ [first] } M h1 ⟨hr.go, hr.la⟩
      exact ⟨this.go, Int.le_trans this.la (mulM hg (by omega))⟩
    · have := runB_bnd hg b d (first + 1 + (listedB a).length) { r with nums := r.nums ++ [first] } M h2 ⟨hr.go, hr.la⟩
      exact ⟨this.go, Int.le_trans this.la (mulM hg (by omega))⟩
  | .up, d, first, r, M, h, hr => ⟨hr.go, Int.le_trans hr.la (mulM hg (by omega))⟩
  | .down, d, first, r, M, h, hr => ⟨hr.go, Int.le_trans hr.la (mulM hg (by omega))⟩
  | .wait n, 0, first, r, M, h, hr => by simp [okS] at h
  | .wait n, d + 1, first, r, M, h, hr => by
    simp only [okS, inR, Bool.and_eq_true, decide_eq_true_eq] at h
    have e1 := hr.go
    have e2 := hr.la
    have e3 := mul8 hg h.2
    have e4 : 0 < g * n := Int.mul_pos (by omega) (by omega)
    refine ⟨?_, ?_⟩
    · simp only [runS, waitS]; omega
    · simp only [runS, waitS, markS, listedS, List.length_singleton]
      have : g * ((M + 8 * 1 : Nat) : Int) = g * (M : Int) + g * 8 := by rw [← Int.mul_add]; rfl
      omega
  | .rest n, 0, first, r, M, h, hr => by simp [okS] at h
  | .rest n, d + 1, first, r, M, h, hr => by
    simp only [okS, inR, Bool.and_eq_true, decide_eq_true_eq] at h
    have e1 := hr.go
    have e2 := hr.la
    have e3 := mul8 hg h.2
    have e4 : 0 < g * n := Int.mul_pos (by omega) (by omega)
    refine ⟨?_, ?_⟩
    · simp only [runS, waitS]; split <;> omega
    · simp only [runS, waitS, markS, listedS, List.length_singleton]
      have : g * ((M + 8 * 1 : Nat) : Int) = g * (M : Int) + g * 8 := by rw [← Int.mul_add]; rfl
      split <;> omega
  | .until, d, first, r, M, h, hr => by
    have e1 := hr.go
    have e2 := hr.la
    have e3 : 0 ≤ g * ((M + 8 * 1 : Nat) : Int) := Int.mul_nonneg (by omega) (by omega)
    have e4 : g * (M : Int) ≤ g * ((M + 8 * 1 : Nat) : Int) := mulM hg (by omega)
    refine ⟨?_, ?_⟩
    · simp only [runS, waitS]; split <;> omega
    · simp only [runS, waitS, markS, listedS, List.length_singleton]; split <;> omega
  | .move n, 0, first, r, M, h, hr => by simp [okS] at h
  | .move n, d + 1, first, r, M, h, hr => by
    simp only [okS, inR, Bool.and_eq_true, decide_eq_true_eq] at h
    have e1 := hr.go
    have e2 := hr.la
    have e4 : 0 < g * n := Int.mul_pos (by omega) (by omega)
    have e5 : g * (M : Int) ≤ g * ((M + 8 * 1 : Nat) : Int) := mulM hg (by omega)
    refine ⟨?_, ?_⟩
    · simp only [runS, waitS]; omega
    · simp only [runS, waitS, markS, listedS, List.length_singleton]; omega
  | .set n, 0, first, r, M, h, hr => by simp [okS] at h
  | .set n, d + 1, first, r, M, h, hr => by
    simp only [okS, inR, Bool.and_eq_true, decide_eq_true_eq] at h
    have e1 := hr.go
    have e4 : 0 ≤ g * n := Int.mul_nonneg (by omega) (by omega)
    have e3 : 0 ≤ g * ((M + 8 * 1 : Nat) : Int) := Int.mul_nonneg (by omega) (by omega)
    refine ⟨?_, ?_⟩
    · simp only [runS, waitS]; omega
    · simp only [runS, waitS, markS, listedS, List.length_singleton, Int.neg_mul]; omega
  | .ahead n, 0, first, r, M, h, hr => by simp [okS] at h
  | .ahead n, d + 1, first, r, M, h, hr => by
    simp only [okS, inR, Bool.and_eq_true, decide_eq_true_eq] at h
    have e1 := hr.go
    have e2 := hr.la
    have e5 : g * (M : Int) ≤ g * ((M + 8 * 1 : Nat) : Int) := mulM hg (by omega)
    have e4 : 0 < g * n := Int.mul_pos (by omega) (by omega)
    refine ⟨?_, ?_⟩
    · simp only [runS, waitS]; omega
    · simp only [runS, waitS, markS, listedS, List.length_singleton, Int.add_zero]
      split
      · rename_i c
        have : 0 ≤ g * n * (r.late / (g * n) + 1) := Int.mul_nonneg (by omega) (by have := Int.ediv_nonneg c (show 0 ≤ g * n by omega); omega)
        omega
      · omega
theorem runB_bnd {g : Int} (hg : 1 ≤ g) : ∀ (b : List Stm) (d : Nat) (first : Int) (r : Rn) (M : Nat), okB d b = true → RnB g M r → RnB g (M + 8 * (listedB b).length) (runB b first r g)
  | [], d, first, r, M, h, hr => by simpa [runB, listedB] using hr
  | s :: b, d, first, r, M, h, hr => by
    obtain ⟨h1, h2⟩ := okB_iff.mp h
    have hb : okB d b = true := okB_iff.mpr ⟨by simp at h1; omega, fun x hx => h2 x (List.mem_cons_of_mem _ hx)⟩
    have a := runS_bnd hg s d first r M (h2 s (List.mem_cons_self ..)) hr
    have c := runB_bnd hg b d (first + (listedS s).length) _ _ hb a
    simp only [runB, listedB, List.length_append]
    rw [Nat.mul_add, ← Nat.add_assoc]
    exact c
end
mutual
/-- a round does at most as many statements as there are -/
theorem runS_nums : ∀ (s : Stm) (first : Int) (r : Rn) (g : Int), (runS s first r g).nums.length ≤ r.nums.length + (listedS s).length
  | .ite t a b, first, r, g => by
    simp only [runS, listedS, List.length_cons, List.length_append]
    split
    · have := runB_nums a (first + 1) { r with nums := r.nums ++ [first] } g
      simp only [List.length_append, List.length_singleton] at this; omega
    · have := runB_nums b (first + 1 + (listedB a).length) { r with nums := r.nums ++ [first] } g
      simp only [List.length_append, List.length_singleton] at this; omega
  | .up, _, _, _ => by simp [runS, listedS]
  | .down, _, _, _ => by simp [runS, listedS]
  | .wait _, _, _, _ => by simp [runS, listedS]
  | .rest _, _, _, _ => by simp [runS, listedS]
  | .until, _, _, _ => by simp [runS, listedS]
  | .move _, _, _, _ => by simp [runS, listedS]
  | .set _, _, _, _ => by simp [runS, listedS]
  | .ahead _, _, _, _ => by simp [runS, listedS]
theorem runB_nums : ∀ (b : List Stm) (first : Int) (r : Rn) (g : Int), (runB b first r g).nums.length ≤ r.nums.length + (listedB b).length
  | [], _, _, _ => by simp [runB, listedB]
  | s :: b, first, r, g => by
    have h1 := runS_nums s first r g
    have h2 := runB_nums b (first + (listedS s).length) (runS s first r g) g
    simp only [runB, listedB, List.length_append]; omega
end
theorem wait_bnd {g : Int} (hg : 1 ≤ g) {s : Stm} {d : Nat} {r : Rn} {M : Nat} (h : okS d s = true) (hr : RnB g M r) : r.late + waitS s r.gone r.late g ≤ g * (M + 8 : Nat) := by
  have e1 := hr.go
  have e2 := hr.la
  have e3 : g * ((M + 8 : Nat) : Int) = g * (M : Int) + g * 8 := by rw [← Int.mul_add]; rfl
  have e4 : 0 ≤ g * (M : Int) := Int.mul_nonneg (by omega) (by omega)
  cases d with
  | zero => simp [okS] at h
  | succ d =>
  cases s with
  | wait n =>
    simp only [okS, inR, Bool.and_eq_true, decide_eq_true_eq] at h
    have := mul8 hg h.2
    simp only [waitS]; omega
  | rest n =>
    simp only [okS, inR, Bool.and_eq_true, decide_eq_true_eq] at h
    have := mul8 hg h.2
    simp only [waitS]; split <;> omega
  | «until» => simp only [waitS]; split <;> omega
  | _ => simp only [waitS]; omega
theorem F_body_done_ok (W : Wt) (g : Int) (hg : 1 ≤ g) (hg2 : g ≤ 10 ^ 33) : ∀ (n d : Nat) (b : List Stm) (first : Int) (r : Rn) (M : Nat), d < n → d ≤ 4 → okB d b = true → RnB g M r → M + 8 * (listedB b).length ≤ 2 ^ 49 → r.nums.length + (listedB b).length ≤ 16000000 →
    F_body_done n [encB b, .int first, encR r, .int g] W = .rt (encR (runB b first r g)) W
  | 0, _, _, _, _, _, h, _, _, _, _, _ => by omega
  | n + 1, d, b, first, r, M, hd, h4, hb, hr, hM, hn => by
    obtain ⟨h8, hs⟩ := okB_iff.mp hb
    have hB := F_bodies_of_ok
    have hH := F_holds_ok
    have big : (listedB b).length ≤ 37448 := Nat.le_trans (okB_bnd hb) (Nat.le_trans (bnd_mono h4) (by decide))
    unfold F_body_done r_body_done
    simp only [encB, encSs_map, encR, ↓zzU, ↓zzP, zzQ, start0, List.map_cons, List.map_nil, List.length_cons, List.length_nil, List.cons_append, List.nil_append, List.replicate, D.bl.injEq, D.int.injEq, D.str.injEq, D.tup.injEq, D.lst.injEq, Option.some.injEq, Option.isSome_some, Bool.false_eq_true, if_true, if_false, true_and, and_true, false_and, and_false, Bool.not_true, Bool.not_false, Nat.reduceAdd, Nat.reduceSub, Nat.sub_self, Nat.zero_add, List.any_cons, List.any_nil, Bool.or_false, Bool.and_true, List.isEmpty_nil, List.isEmpty_cons, Bool.and_false, Bool.or_true, Bool.false_or, Bool.true_or, Bool.false_and, Bool.true_and, List.foldr_cons, List.foldr_nil, List.set_cons_zero, List.set_cons_succ, Nat.reduceEqDiff, beq_self_eq_true, eq_self, decide_true, decide_false, ↓zP12, zQ12, zzW]
    refine forR_inv encS (fun x S => ∃ f r' s2 s8 s9 s10 s11 M', S = ⟨[.val (.tup (b.map encS)), .val (.int f), .val s2, .val (.int g), .val (.int r'.gone), .val (.int r'.late), .val (.bl r'.flag), .val (.tup (r'.nums.map D.int)), s8, s9, s10, s11], W⟩ ∧
      (∀ s ∈ x, okS d s = true) ∧ x.length ≤ 8 ∧ runB x f r' g = runB b first r g ∧ RnB g M' r' ∧ M' + 8 * (listedB x).length ≤ 2 ^ 49 ∧ r'.nums.length + (listedB x).length ≤ 16000000) ?_ ?_ b _ ⟨first, r, _, _, _, _, _, M, rfl, hs, h8, rfl, hr, hM, hn⟩
    · rintro S ⟨f, r', s2, s8, s9, s10, s11, M', rfl, _, _, e, _⟩
      simp only [↓zzU, ↓zzP, zzQ, start0, List.map_cons, List.map_nil, List.length_cons, List.length_nil, List.cons_append, List.nil_append, List.replicate, D.bl.injEq, D.int.injEq, D.str.injEq, D.tup.injEq, D.lst.injEq, Option.some.injEq, Option.isSome_some, Bool.false_eq_true, if_true, if_false, true_and, and_true, false_and, and_false, Bool.not_true, Bool.not_false, Nat.reduceAdd, Nat.reduceSub, Nat.sub_self, Nat.zero_add, List.any_cons, List.any_nil, Bool.or_false, Bool.and_true, List.isEmpty_nil, List.isEmpty_cons, Bool.and_false, Bool.or_true, Bool.false_or, Bool.true_or, Bool.false_and, Bool.true_and, List.foldr_cons, List.foldr_nil, List.set_cons_zero, List.set_cons_succ, Nat.reduceEqDiff, beq_self_eq_true, eq_self, decide_true, decide_false, ↓zP12, zQ12, zzW]
      rw [← e]
      rfl
    · rintro s x S ⟨f, r', s2, s8, s9, s10, s11, M', rfl, hx, hl, e, hb', hM', hn'⟩ k hk
      have hs' := hx s (List.mem_cons_self ..)
      have hx' : ∀ y ∈ x, okS d y = true := fun y hy => hx y (List.mem_cons_of_mem _ hy)
      have pos := listedS_pos s
      simp only [listedB, List.length_append, List.length_cons] at hM' hn' hl
      have go : ∀ s2 s8 s9 s10 s11, k ⟨[.val (.tup (b.map encS)), .val (.int (f + (listedS s).length)), .val s2, .val (.int g), .val (.int (runS s f r' g).gone), .val (.int (runS s f r' g).late), .val (.bl (runS s f r' g).flag), .val (.tup ((runS s f r' g).nums.map D.int)), s8, s9, s10, s11], W⟩ = .rt (encR (runB b first r g)) W := fun s2 s8 s9 s10 s11 => by
        have b1 := runS_bnd hg s d f r' M' hs' hb'
        have b2 := runS_nums s f r' g
        exact hk _ ⟨_, runS s f r' g, s2, s8, s9, s10, s11, _, rfl, hx', by omega, e, b1, by omega, by omega⟩
      have hc : (r'.nums.map D.int).length + 1 ≤ sizeLine := by rw [List.length_map]; exact szl (m := 16000000) (by omega)
      obtain ⟨d, rfl⟩ : ∃ e, d = e + 1 := by cases d with | zero => simp [okS] at hs' | succ d => exact ⟨d, rfl⟩
      have hl1 := F_listed_ok
      have hW := F_waited_ok s r'.gone r'.late g (d + 1) W hs'
      have hK := F_marked_ok s (r'.late + waitS s r'.gone r'.late g) g (d + 1) W hs'
      simp only [hc, ↓zzU, ↓zzP, zzQ, start0, List.map_cons, List.map_nil, List.length_cons, List.length_nil, List.cons_append, List.nil_append, List.replicate, D.bl.injEq, D.int.injEq, D.str.injEq, D.tup.injEq, D.lst.injEq, Option.some.injEq, Option.isSome_some, Bool.false_eq_true, if_true, if_false, true_and, and_true, false_and, and_false, Bool.not_true, Bool.not_false, Nat.reduceAdd, Nat.reduceSub, Nat.sub_self, Nat.zero_add, List.any_cons, List.any_nil, Bool.or_false, Bool.and_true, List.isEmpty_nil, List.isEmpty_cons, Bool.and_false, Bool.or_true, Bool.false_or, Bool.true_or, Bool.false_and, Bool.true_and, List.foldr_cons, List.foldr_nil, List.set_cons_zero, List.set_cons_succ, Nat.reduceEqDiff, beq_self_eq_true, eq_self, decide_true, decide_false, ↓zP12, zQ12, zzW]
      cases s with
      | ite t x1 y1 =>
        obtain ⟨ht, h1, h2⟩ := okS_ite.mp hs'
        simp only [listedS, List.length_cons, List.length_append] at hM' hn' go
        have i1 := F_listed_ok W 9 d x1 (by omega) (by omega) h1
        have i2 := F_listed_ok W 9 d y1 (by omega) (by omega) h2
        have l1 := okB_bnd h1
        have l2 := okB_bnd h2
        have b4 : bnd d ≤ 37448 := Nat.le_trans (bnd_mono (show d ≤ 4 by omega)) (by decide)
        simp only [con_S, ixS_0, ixS_wait, ixS_rest, ixS_move, ixS_ahead, ixS_set, ixS_ite1, ixS_ite2, ixS_ite3, wS_wait, wS_rest, wS_move, wS_ahead, wS_set, wS_until, wS_up, wS_down, wS_ite, hH _ _ _ _ _ ht, ↓zzU, ↓zzP, zzQ, start0, List.map_cons, List.map_nil, List.length_cons, List.length_nil, List.cons_append, List.nil_append, List.replicate, D.bl.injEq, D.int.injEq, D.str.injEq, D.tup.injEq, D.lst.injEq, Option.some.injEq, Option.isSome_some, Bool.false_eq_true, if_true, if_false, true_and, and_true, false_and, and_false, Bool.not_true, Bool.not_false, Nat.reduceAdd, Nat.reduceSub, Nat.sub_self, Nat.zero_add, List.any_cons, List.any_nil, Bool.or_false, Bool.and_true, List.isEmpty_nil, List.isEmpty_cons, Bool.and_false, Bool.or_true, Bool.false_or, Bool.true_or, Bool.false_and, Bool.true_and, List.foldr_cons, List.foldr_nil, List.set_cons_zero, List.set_cons_succ, Nat.reduceEqDiff, beq_self_eq_true, eq_self, decide_true, decide_false, ↓zP12, zQ12, zzW]
        cases hh : holdsT t r'.late r'.flag g with
        | true =>
          have ih := F_body_done_ok W g hg hg2 n d x1 (f + 1) { r' with nums := r'.nums ++ [f] } M' (by omega) (by omega) h1 ⟨hb'.go, hb'.la⟩ (by omega) (by simp only [List.length_append, List.length_singleton]; omega)
          simp only [encR, List.map_append, List.map_cons, List.map_nil] at ih
          simp only [bodD, i1, i2, ih, Int.add_zero, hB, lcR_cons, List.length_map, ↓zzU, ↓zzP, zzQ, start0, List.map_cons, List.map_nil, List.length_cons, List.length_nil, List.cons_append, List.nil_append, List.replicate, D.bl.injEq, D.int.injEq, D.str.injEq, D.tup.injEq, D.lst.injEq, Option.some.injEq, Option.isSome_some, Bool.false_eq_true, if_true, if_false, true_and, and_true, false_and, and_false, Bool.not_true, Bool.not_false, Nat.reduceAdd, Nat.reduceSub, Nat.sub_self, Nat.zero_add, List.any_cons, List.any_nil, Bool.or_false, Bool.and_true, List.isEmpty_nil, List.isEmpty_cons, Bool.and_false, Bool.or_true, Bool.false_or, Bool.true_or, Bool.false_and, Bool.true_and, List.foldr_cons, List.foldr_nil, List.set_cons_zero, List.set_cons_succ, Nat.reduceEqDiff, beq_self_eq_true, eq_self, decide_true, decide_false, ↓zP12, zQ12, zzW]
          have g1 := go
          simp only [runS, hh, if_true] at g1
          rw [show f + 1 + (((listedB x1).length : Int) + (listedB y1).length) = f + (((listedB x1).length + (listedB y1).length + 1 : Nat) : Int) by omega]
          exact g1 _ _ _ _ _
        | false =>
          have ih := F_body_done_ok W g hg hg2 n d y1 (f + 1 + (listedB x1).length) { r' with nums := r'.nums ++ [f] } M' (by omega) (by omega) h2 ⟨hb'.go, hb'.la⟩ (by omega) (by simp only [List.length_append, List.length_singleton]; omega)
          simp only [encR, List.map_append, List.map_cons, List.map_nil] at ih
          simp only [bodD, i1, i2, ih, Int.add_zero, hB, lcR_cons, List.length_map, ↓zzU, ↓zzP, zzQ, start0, List.map_cons, List.map_nil, List.length_cons, List.length_nil, List.cons_append, List.nil_append, List.replicate, D.bl.injEq, D.int.injEq, D.str.injEq, D.tup.injEq, D.lst.injEq, Option.some.injEq, Option.isSome_some, Bool.false_eq_true, if_true, if_false, true_and, and_true, false_and, and_false, Bool.not_true, Bool.not_false, Nat.reduceAdd, Nat.reduceSub, Nat.sub_self, Nat.zero_add, List.any_cons, List.any_nil, Bool.or_false, Bool.and_true, List.isEmpty_nil, List.isEmpty_cons, Bool.and_false, Bool.or_true, Bool.false_or, Bool.true_or, Bool.false_and, Bool.true_and, List.foldr_cons, List.foldr_nil, List.set_cons_zero, List.set_cons_succ, Nat.reduceEqDiff, beq_self_eq_true, eq_self, decide_true, decide_false, ↓zP12, zQ12, zzW]
          have g1 := go
          simp only [runS, hh, Bool.false_eq_true, if_false] at g1
          rw [show f + 1 + (((listedB x1).length : Int) + (listedB y1).length) = f + (((listedB x1).length + (listedB y1).length + 1 : Nat) : Int) by omega]
          exact g1 _ _ _ _ _
      | up =>
        simp only [con_S, ixS_0, ixS_wait, ixS_rest, ixS_move, ixS_ahead, ixS_set, ixS_ite1, ixS_ite2, ixS_ite3, wS_wait, wS_rest, wS_move, wS_ahead, wS_set, wS_until, wS_up, wS_down, wS_ite, bodD, hB, Int.add_zero, ↓zzU, ↓zzP, zzQ, start0, List.map_cons, List.map_nil, List.length_cons, List.length_nil, List.cons_append, List.nil_append, List.replicate, D.bl.injEq, D.int.injEq, D.str.injEq, D.tup.injEq, D.lst.injEq, Option.some.injEq, Option.isSome_some, Bool.false_eq_true, if_true, if_false, true_and, and_true, false_and, and_false, Bool.not_true, Bool.not_false, Nat.reduceAdd, Nat.reduceSub, Nat.sub_self, Nat.zero_add, List.any_cons, List.any_nil, Bool.or_false, Bool.and_true, List.isEmpty_nil, List.isEmpty_cons, Bool.and_false, Bool.or_true, Bool.false_or, Bool.true_or, Bool.false_and, Bool.true_and, List.foldr_cons, List.foldr_nil, List.set_cons_zero, List.set_cons_succ, Nat.reduceEqDiff, beq_self_eq_true, eq_self, decide_true, decide_false, ↓zP12, zQ12, zzW]
        have g1 := go
        simp only [runS, listedS, List.length_singleton, List.map_append, List.map_cons, List.map_nil] at g1
        exact g1 _ _ _ _ _
      | down =>
        simp only [con_S, ixS_0, ixS_wait, ixS_rest, ixS_move, ixS_ahead, ixS_set, ixS_ite1, ixS_ite2, ixS_ite3, wS_wait, wS_rest, wS_move, wS_ahead, wS_set, wS_until, wS_up, wS_down, wS_ite, bodD, hB, Int.add_zero, ↓zzU, ↓zzP, zzQ, start0, List.map_cons, List.map_nil, List.length_cons, List.length_nil, List.cons_append, List.nil_append, List.replicate, D.bl.injEq, D.int.injEq, D.str.injEq, D.tup.injEq, D.lst.injEq, Option.some.injEq, Option.isSome_some, Bool.false_eq_true, if_true, if_false, true_and, and_true, false_and, and_false, Bool.not_true, Bool.not_false, Nat.reduceAdd, Nat.reduceSub, Nat.sub_self, Nat.zero_add, List.any_cons, List.any_nil, Bool.or_false, Bool.and_true, List.isEmpty_nil, List.isEmpty_cons, Bool.and_false, Bool.or_true, Bool.false_or, Bool.true_or, Bool.false_and, Bool.true_and, List.foldr_cons, List.foldr_nil, List.set_cons_zero, List.set_cons_succ, Nat.reduceEqDiff, beq_self_eq_true, eq_self, decide_true, decide_false, ↓zP12, zQ12, zzW]
        have g1 := go
        simp only [runS, listedS, List.length_singleton, List.map_append, List.map_cons, List.map_nil] at g1
        exact g1 _ _ _ _ _
      | _ =>
        have hK := hK ⟨hg, hg2, Int.le_trans (wait_bnd hg hs' hb') (mulM hg (b := 2 ^ 50) (by omega))⟩
        simp only [con_S, ixS_0, ixS_wait, ixS_rest, ixS_move, ixS_ahead, ixS_set, ixS_ite1, ixS_ite2, ixS_ite3, wS_wait, wS_rest, wS_move, wS_ahead, wS_set, wS_until, wS_up, wS_down, wS_ite, bodD, hB, hW, hK, Int.add_zero, ↓zzU, ↓zzP, zzQ, start0, List.map_cons, List.map_nil, List.length_cons, List.length_nil, List.cons_append, List.nil_append, List.replicate, D.bl.injEq, D.int.injEq, D.str.injEq, D.tup.injEq, D.lst.injEq, Option.some.injEq, Option.isSome_some, Bool.false_eq_true, if_true, if_false, true_and, and_true, false_and, and_false, Bool.not_true, Bool.not_false, Nat.reduceAdd, Nat.reduceSub, Nat.sub_self, Nat.zero_add, List.any_cons, List.any_nil, Bool.or_false, Bool.and_true, List.isEmpty_nil, List.isEmpty_cons, Bool.and_false, Bool.or_true, Bool.false_or, Bool.true_or, Bool.false_and, Bool.true_and, List.foldr_cons, List.foldr_nil, List.set_cons_zero, List.set_cons_succ, Nat.reduceEqDiff, beq_self_eq_true, eq_self, decide_true, decide_false, ↓zP12, zQ12, zzW]
        have g1 := go
        simp only [runS, listedS, List.length_singleton, List.map_append, List.map_cons, List.map_nil] at g1
        exact g1 _ _ _ _ _
end Kt
set_option Elab.async false
set_option linter.all false
set_option maxRecDepth 8000
set_option maxHeartbeats 1000000
/-! KtC3: what the runs tell: rows -/
namespace Kt
open PySem PySem.Spec L2 Pl
/-- a state at a start: moment, lateness, flag -/
structure Sx where
  m : Int
  l : Int
  f : Bool
def encX (s : Sx) : D := .tup [.int s.m, .int s.l, .bl s.f]
def rnd (L : Loop) (s : Sx) (t g : Int) : Rn := runB L.body 0 ⟨t, s.l + t, s.f, []⟩ g
def nxt (L : Loop) (s : Sx) (t g : Int) : Sx := ⟨s.m + (rnd L s t g).gone, (rnd L s t g).late, (rnd L s t g).flag⟩
def begX (L : Loop) (g : Int) : Sx := ⟨0, -g * L.first, false⟩
/-- the states behind each time -/
def stsL (L : Loop) (g : Int) : Sx → List Int → List Sx
  | _, [] => []
  | s, t :: ts => nxt L s t g :: stsL L g (nxt L s t g) ts
def numsL (L : Loop) (g : Int) : Sx → List Int → List Int
  | _, [] => []
  | s, t :: ts => (rnd L s t g).nums ++ numsL L g (nxt L s t g) ts
def addKey (ks : List Int) (n : Int) : List Int := if n ∈ ks then ks else ks ++ [n]
def keysL (ks ns : List Int) : List Int := ns.foldl addKey ks
def rowOk (L : Loop) (g : Int) (ts : List Int) : Prop := 1 ≤ g ∧ g ≤ 10 ^ 33 ∧ ts.length ≤ 1000000 ∧ ∀ t ∈ ts, 0 ≤ t ∧ t ≤ g * 8
theorem gR_ok : D.good (.tup []) = true := rfl
theorem F_round_done_ok (L : Loop) (s : Sx) (t g : Int) (M : Nat) (W : Wt) (h : okL L = true) (hg : 1 ≤ g) (hg2 : g ≤ 10 ^ 33) (h0 : 0 ≤ t) (h8 : t ≤ g * 8) (hl : s.l ≤ g * M) (hM : M ≤ 2 ^ 48) :
    F_round_done [encL L, encX s, .int t, .int g] W = .rt (.tup [encX (nxt L s t g), .tup ((rnd L s t g).nums.map D.int)]) W := by
  obtain ⟨_, hB, h12⟩ := okL_iff.mp h
  have e : g * ((M + 8 : Nat) : Int) = g * (M : Int) + g * 8 := by rw [← Int.mul_add]; rfl
  have b := F_body_done_ok W g hg hg2 9 3 L.body 0 ⟨t, s.l + t, s.f, []⟩ (M + 8) (by omega) (by omega) hB ⟨h0, by show s.l + t ≤ _; omega⟩ (by omega) (by simp only [List.length_nil]; omega)
  simp only [encR, List.map_nil] at b
  show _ = Out.rt (.tup [.tup [.int (s.m + (runB L.body 0 ⟨t, s.l + t, s.f, []⟩ g).gone), .int (runB L.body 0 ⟨t, s.l + t, s.f, []⟩ g).late, .bl (runB L.body 0 ⟨t, s.l + t, s.f, []⟩ g).flag], .tup ((runB L.body 0 ⟨t, s.l + t, s.f, []⟩ g).nums.map D.int)]) W
  generalize runB L.body 0 ⟨t, s.l + t, s.f, []⟩ g = r at b ⊢
  unfold F_round_done
  generalize F_body_done 9 = F at b ⊢
  unfold r_round_done
  cases s with | mk m l f =>
  dsimp only [encX] at b ⊢
  simp only [encL, b, ↓zzU, ↓zzP, zzQ, start0, List.map_cons, List.map_nil, List.length_cons, List.length_nil, List.cons_append, List.nil_append, List.replicate, D.bl.injEq, D.int.injEq, D.str.injEq, D.tup.injEq, D.lst.injEq, Option.some.injEq, Option.isSome_some, Bool.false_eq_true, if_true, if_false, true_and, and_true, false_and, and_false, Bool.not_true, Bool.not_false, Nat.reduceAdd, Nat.reduceSub, Nat.sub_self, Nat.zero_add, List.any_cons, List.any_nil, Bool.or_false, Bool.and_true, List.isEmpty_nil, List.isEmpty_cons, Bool.and_false, Bool.or_true, Bool.false_or, Bool.true_or, Bool.false_and, Bool.true_and, List.foldr_cons, List.foldr_nil, List.set_cons_zero, List.set_cons_succ, Nat.reduceEqDiff, beq_self_eq_true, eq_self, decide_true, decide_false, ↓zP9, zQ9, zzW]
theorem nxt_bnd {L : Loop} {s : Sx} {t g : Int} {M : Nat} (h : okL L = true) (hg : 1 ≤ g) (h0 : 0 ≤ t) (h8 : t ≤ g * 8) (hl : s.l ≤ g * M) : (nxt L s t g).l ≤ g * (M + 104 : Nat) ∧ (rnd L s t g).nums.length ≤ 12 ∧ 0 ≤ (rnd L s t g).gone := by
  obtain ⟨_, hB, h12⟩ := okL_iff.mp h
  have e : g * ((M + 8 : Nat) : Int) = g * (M : Int) + g * 8 := by rw [← Int.mul_add]; rfl
  have b := runB_bnd hg L.body 3 0 ⟨t, s.l + t, s.f, []⟩ (M + 8) hB ⟨h0, by show s.l + t ≤ _; omega⟩
  have c := runB_nums L.body 0 ⟨t, s.l + t, s.f, []⟩ g
  refine ⟨Int.le_trans b.la (mulM hg (by omega)), ?_, b.go⟩
  simp only [List.length_nil] at c
  exact Nat.le_trans c (by omega)
/-! the dict of the numbers -/
theorem any_int (ks : List Int) (n : Int) : ((ks.map D.int).any fun x => eqD x (.int n)) = decide (n ∈ ks) := by
  induction ks with
  | nil => rfl
  | cons k r ih =>
    rw [List.map_cons, List.any_cons, ih, eqD_int, Bool.eq_iff_iff]
    simp only [Bool.or_eq_true, beq_iff_eq, decide_eq_true_eq, List.mem_cons]
    exact or_congr_left eq_comm
theorem dput_key (ks : List Int) (n : Int) : dput (ks.map D.int) (List.replicate ks.length (.bl true)) (.int n) (.bl true) = ((addKey ks n).map D.int, List.replicate (addKey ks n).length (.bl true)) := by
  unfold dput addKey
  rw [any_int]
  by_cases h : n ∈ ks
  · rw [if_pos (by simpa using h), if_pos h]
    congr 1
    have : ∀ (xs : List D) (m : Nat), ((xs.zip (List.replicate m (.bl true))).map fun p => if eqD p.1 (.int n) = true then D.bl true else p.2) = (xs.zip (List.replicate m (D.bl true))).map fun _ => D.bl true := fun xs m => by
      refine List.map_congr_left fun p hp => ?_
      split
      · rfl
      · exact List.eq_of_mem_replicate (List.of_mem_zip hp).2
    rw [this, List.map_const', List.length_zip, List.length_map, List.length_replicate, Nat.min_self]
  · rw [if_neg (by simpa using h), if_neg h]
    simp [List.replicate_succ']
theorem addKey_len (ks : List Int) (n : Int) : (addKey ks n).length ≤ ks.length + 1 := by
  unfold addKey; split <;> simp
theorem keysL_len : ∀ (ns ks : List Int), (keysL ks ns).length ≤ ks.length + ns.length
  | [], ks => by simp [keysL]
  | n :: ns, ks => by
    have := keysL_len ns (addKey ks n)
    have := addKey_len ks n
    simp only [keysL, List.foldl_cons, List.length_cons] at *; omega
theorem F_states_of_ok (L : Loop) (g : Int) (ts : List Int) (W : Wt) (h : okL L = true) (hr : rowOk L g ts) :
    F_states_of [encL L, .tup [.int g, .tup (ts.map D.int)]] W = .rt (.tup [.lst ((begX L g :: stsL L g (begX L g) ts).map encX), .dct ((keysL [] (numsL L g (begX L g) ts)).map D.int) (List.replicate (keysL [] (numsL L g (begX L g) ts)).length (.bl true))]) W := by
  obtain ⟨hg, hg2, hts, ht⟩ := hr
  have hb := F_begun_ok L g W h
  have hL := F_round_done_ok L
  obtain ⟨⟨_, _, _, hf1, _⟩, _⟩ := okL_iff.mp h
  unfold F_states_of r_states_of
  simp only [hb, List.replicate_zero, ↓zzU, ↓zzP, zzQ, start0, List.map_cons, List.map_nil, List.length_cons, List.length_nil, List.cons_append, List.nil_append, List.replicate, D.bl.injEq, D.int.injEq, D.str.injEq, D.tup.injEq, D.lst.injEq, Option.some.injEq, Option.isSome_some, Bool.false_eq_true, if_true, if_false, true_and, and_true, false_and, and_false, Bool.not_true, Bool.not_false, Nat.reduceAdd, Nat.reduceSub, Nat.sub_self, Nat.zero_add, List.any_cons, List.any_nil, Bool.or_false, Bool.and_true, List.isEmpty_nil, List.isEmpty_cons, Bool.and_false, Bool.or_true, Bool.false_or, Bool.true_or, Bool.false_and, Bool.true_and, List.foldr_cons, List.foldr_nil, List.set_cons_zero, List.set_cons_succ, Nat.reduceEqDiff, beq_self_eq_true, eq_self, decide_true, decide_false, ↓zP8, zQ8, zzW]
  refine forR_inv D.int (fun x S => ∃ s A ks s5 s6 s7 M, S = ⟨[.val (encL L), .val (.tup [.int g, .tup (ts.map D.int)]), .val (encX s), .val (.lst A), .own (.dct (ks.map D.int) (List.replicate ks.length (.bl true))), s5, s6, s7], W⟩ ∧
    (∀ t ∈ x, 0 ≤ t ∧ t ≤ g * 8) ∧ s.l ≤ g * (M : Nat) ∧ M + 104 * x.length ≤ 200000000 ∧ A.length + x.length ≤ 1000001 ∧ ks.length + 12 * x.length ≤ 12000000 ∧
    A ++ (stsL L g s x).map encX = (begX L g :: stsL L g (begX L g) ts).map encX ∧ keysL ks (numsL L g s x) = keysL [] (numsL L g (begX L g) ts)) ?_ ?_ ts _ ⟨begX L g, _, [], _, _, _, 0, rfl, ht, ?_, by omega, by simp; omega, by simp; omega, rfl, rfl⟩
  · rintro S ⟨s, A, ks, s5, s6, s7, M, rfl, _, _, _, _, _, e1, e2⟩
    simp only [↓zzU, ↓zzP, zzQ, start0, List.map_cons, List.map_nil, List.length_cons, List.length_nil, List.cons_append, List.nil_append, List.replicate, D.bl.injEq, D.int.injEq, D.str.injEq, D.tup.injEq, D.lst.injEq, Option.some.injEq, Option.isSome_some, Bool.false_eq_true, if_true, if_false, true_and, and_true, false_and, and_false, Bool.not_true, Bool.not_false, Nat.reduceAdd, Nat.reduceSub, Nat.sub_self, Nat.zero_add, List.any_cons, List.any_nil, Bool.or_false, Bool.and_true, List.isEmpty_nil, List.isEmpty_cons, Bool.and_false, Bool.or_true, Bool.false_or, Bool.true_or, Bool.false_and, Bool.true_and, List.foldr_cons, List.foldr_nil, List.set_cons_zero, List.set_cons_succ, Nat.reduceEqDiff, beq_self_eq_true, eq_self, decide_true, decide_false, ↓zP8, zQ8, zzW]
    simp only [stsL, List.map_nil, List.map_cons, List.append_nil, numsL] at e1 e2
    rw [← e1, ← e2]
    rfl
  · rintro t x S ⟨s, A, ks, s5, s6, s7, M, rfl, hx, hl, hM, hA, hk', e1, e2⟩ k hk
    obtain ⟨t1, t2⟩ := hx t (List.mem_cons_self ..)
    have r1 := hL s t g M W h hg hg2 t1 t2 hl (by omega)
    obtain ⟨n1, n2, n3⟩ := nxt_bnd h hg t1 t2 hl
    simp only [List.length_cons] at hM hA hk'
    simp only [r1, ↓zzU, ↓zzP, zzQ, start0, List.map_cons, List.map_nil, List.length_cons, List.length_nil, List.cons_append, List.nil_append, List.replicate, D.bl.injEq, D.int.injEq, D.str.injEq, D.tup.injEq, D.lst.injEq, Option.some.injEq, Option.isSome_some, Bool.false_eq_true, if_true, if_false, true_and, and_true, false_and, and_false, Bool.not_true, Bool.not_false, Nat.reduceAdd, Nat.reduceSub, Nat.sub_self, Nat.zero_add, List.any_cons, List.any_nil, Bool.or_false, Bool.and_true, List.isEmpty_nil, List.isEmpty_cons, Bool.and_false, Bool.or_true, Bool.false_or, Bool.true_or, Bool.false_and, Bool.true_and, List.foldr_cons, List.foldr_nil, List.set_cons_zero, List.set_cons_succ, Nat.reduceEqDiff, beq_self_eq_true, eq_self, decide_true, decide_false, ↓zP8, zQ8, zzW]
    rw [if_pos (szl (m := 1000001) (by omega))]
    refine forR_inv D.int (fun y S => ∃ ks' s7, S = ⟨[.val (encL L), .val (.tup [.int g, .tup (ts.map D.int)]), .val (encX (nxt L s t g)), .val (.lst (A ++ [encX (nxt L s t g)])), .own (.dct (ks'.map D.int) (List.replicate ks'.length (.bl true))), .val (.int t), .val (.tup ((rnd L s t g).nums.map D.int)), s7], W⟩ ∧
      ks'.length + y.length ≤ ks.length + 12 ∧ keysL ks' y = keysL ks (rnd L s t g).nums) ?_ ?_ _ _ ⟨ks, _, rfl, by omega, rfl⟩
    · rintro S ⟨ks', s7, rfl, h1, h2⟩
      refine hk _ ⟨nxt L s t g, _, ks', _, _, _, M + 104, rfl, fun z hz => hx z (List.mem_cons_of_mem _ hz), n1, by omega, by simp; omega, by simp at h1; omega, by rw [← e1]; simp [stsL], ?_⟩
      rw [← e2]
      simp only [numsL, keysL, List.foldl_append, List.foldl_nil] at h2 ⊢
      rw [← h2]
    · rintro y z S ⟨ks', s7, rfl, h1, h2⟩ k' hk''
      simp only [List.length_cons] at h1
      have hsz : (ks'.map D.int).length < sizeLine := by rw [List.length_map]; show _ < 2 ^ 24; omega
      simp only [hsz, dput_key, ↓zzU, ↓zzP, zzQ, start0, List.map_cons, List.map_nil, List.length_cons, List.length_nil, List.cons_append, List.nil_append, List.replicate, D.bl.injEq, D.int.injEq, D.str.injEq, D.tup.injEq, D.lst.injEq, Option.some.injEq, Option.isSome_some, Bool.false_eq_true, if_true, if_false, true_and, and_true, false_and, and_false, Bool.not_true, Bool.not_false, Nat.reduceAdd, Nat.reduceSub, Nat.sub_self, Nat.zero_add, List.any_cons, List.any_nil, Bool.or_false, Bool.and_true, List.isEmpty_nil, List.isEmpty_cons, Bool.and_false, Bool.or_true, Bool.false_or, Bool.true_or, Bool.false_and, Bool.true_and, List.foldr_cons, List.foldr_nil, List.set_cons_zero, List.set_cons_succ, Nat.reduceEqDiff, beq_self_eq_true, eq_self, decide_true, decide_false, ↓zP8, zQ8, zzW]
      have := addKey_len ks' y
      exact hk'' _ ⟨addKey ks' y, _, rfl, by omega, h2⟩
  · show -g * L.first ≤ g * ((0 : Nat) : Int)
    have : 0 ≤ g * L.first := Int.mul_nonneg (by omega) hf1
    rw [Int.neg_mul]; simp; exact this
theorem lcR_map' {α : Type} {g : RTg} {te : RE} {vs : List Nat} {k : D → Sta → Out} (enc : α → D) (f : α → D) {S : Sta} {R : Out} (xs : List α) (acc : List D) (hl : acc.length + xs.length ≤ sizeLine) (h : ∀ x ∈ xs, ∃ S', wipS S' vs = S ∧ ∀ k', g (enc x) S (fun S2 => te S2 k' badX) = k' (f x) S')
    (hk : k (.lst (acc ++ xs.map f)) S = R) : lcR g rYes te vs k (xs.map enc) acc S = R := (lcR_map enc f xs acc hl h).trans hk
theorem stsL_len (L : Loop) (g : Int) : ∀ (ts : List Int) (s : Sx), (stsL L g s ts).length = ts.length
  | [], _ => rfl
  | t :: ts, s => by simp [stsL, stsL_len L g ts]
/-- all states of a row -/
def allX (L : Loop) (g : Int) (ts : List Int) : List Sx := begX L g :: stsL L g (begX L g) ts
theorem allX_len (L : Loop) (g : Int) (ts : List Int) : (allX L g ts).length = ts.length + 1 := by simp [allX, stsL_len]
def encRow (g : Int) (ts : List Int) : D := .tup [.int g, .tup (ts.map D.int)]
theorem F_moments_ok (L : Loop) (g : Int) (ts : List Int) (W : Wt) (h : okL L = true) (hr : rowOk L g ts) : F_moments [encL L, encRow g ts] W = .rt (.lst ((allX L g ts).map fun s => .int s.m)) W := by
  have b := F_states_of_ok L g ts W h hr
  unfold F_moments r_moments encRow
  generalize F_states_of = F at b ⊢
  have hl : (allX L g ts).length ≤ 1000001 := by rw [allX_len]; have := hr.2.2.1; omega
  simp only [b, ↓zzU, ↓zzP, zzQ, start0, List.map_cons, List.map_nil, List.length_cons, List.length_nil, List.cons_append, List.nil_append, List.replicate, D.bl.injEq, D.int.injEq, D.str.injEq, D.tup.injEq, D.lst.injEq, Option.some.injEq, Option.isSome_some, Bool.false_eq_true, if_true, if_false, true_and, and_true, false_and, and_false, Bool.not_true, Bool.not_false, Nat.reduceAdd, Nat.reduceSub, Nat.sub_self, Nat.zero_add, List.any_cons, List.any_nil, Bool.or_false, Bool.and_true, List.isEmpty_nil, List.isEmpty_cons, Bool.and_false, Bool.or_true, Bool.false_or, Bool.true_or, Bool.false_and, Bool.true_and, List.foldr_cons, List.foldr_nil, List.set_cons_zero, List.set_cons_succ, Nat.reduceEqDiff, beq_self_eq_true, eq_self, decide_true, decide_false, ↓zP3, zQ3, zzW]
  refine lcR_map' encX (fun s => .int s.m) (allX L g ts) [] (by simp only [List.length_nil]; exact szl (m := 1000001) (by omega)) (fun x _ => ⟨⟨[.val (encL L), .val (.tup [.int g, .tup (ts.map D.int)]), .val (encX x)], W⟩, rfl, fun k' => ?_⟩) ?_
  · cases x with | mk m l f =>
    simp only [encX, ↓zzU, ↓zzP, zzQ, start0, List.map_cons, List.map_nil, List.length_cons, List.length_nil, List.cons_append, List.nil_append, List.replicate, D.bl.injEq, D.int.injEq, D.str.injEq, D.tup.injEq, D.lst.injEq, Option.some.injEq, Option.isSome_some, Bool.false_eq_true, if_true, if_false, true_and, and_true, false_and, and_false, Bool.not_true, Bool.not_false, Nat.reduceAdd, Nat.reduceSub, Nat.sub_self, Nat.zero_add, List.any_cons, List.any_nil, Bool.or_false, Bool.and_true, List.isEmpty_nil, List.isEmpty_cons, Bool.and_false, Bool.or_true, Bool.false_or, Bool.true_or, Bool.false_and, Bool.true_and, List.foldr_cons, List.foldr_nil, List.set_cons_zero, List.set_cons_succ, Nat.reduceEqDiff, beq_self_eq_true, eq_self, decide_true, decide_false, ↓zP3, zQ3, zzW]
  · rfl
theorem gd_int (n : Nat) (i : Int) : D.gd n (.int i) = true := gd_mono (n := 0) rfl (Nat.zero_le _)
theorem gd_ints (n : Nat) (ts : List Int) : D.gd (n + 1) (.tup (ts.map D.int)) = true := by
  rw [gd_tup, List.all_map, List.all_eq_true]
  exact fun x _ => gd_int _ _
theorem good_row (g : Int) (ts : List Int) : D.good (encRow g ts) = true := by
  refine gd_good (n := 2) ?_ (by decide)
  unfold encRow
  rw [gd_tup]
  simp only [List.all_cons, List.all_nil, gd_int, gd_ints, Bool.and_self]
/-- a row of a loop, not too long, not too fine -/
def rowL (L : Loop) (g : Int) (ts : List Int) : Prop := 1 ≤ g ∧ g ≤ 10 ^ 33 ∧ ts.length ≤ 1000000 ∧ ∀ t ∈ ts, g * L.least ≤ t ∧ t ≤ g * L.most
theorem rowL_ok {L : Loop} {g : Int} {ts : List Int} (h : okL L = true) (r : rowL L g ts) : rowOk L g ts := by
  obtain ⟨⟨u1, u2, u3, u4, u5⟩, _⟩ := okL_iff.mp h
  obtain ⟨h1, h2, h3, h4⟩ := r
  refine ⟨h1, h2, h3, fun t ht => ?_⟩
  obtain ⟨a, b⟩ := h4 t ht
  have b1 : 0 ≤ g * L.least := Int.mul_nonneg (by omega) u1
  have b3 : g * L.most ≤ g * 8 := Int.mul_le_mul_of_nonneg_left u3 (by omega)
  omega
theorem rowL_is {L : Loop} {g : Int} {ts : List Int} (r : rowL L g ts) : isRow L (encRow g ts) = true ∧ shortB (encRow g ts) = true := by
  obtain ⟨h1, h2, h3, h4⟩ := r
  refine ⟨?_, by simpa [shortB, encRow] using h3⟩
  simp only [isRow, encRow, Bool.and_eq_true, decide_eq_true_eq, List.all_eq_true, List.all_map]
  refine ⟨h1, fun t ht => ?_⟩
  obtain ⟨a, b⟩ := h4 t ht
  simp only [Function.comp, isNum, Bool.and_eq_true, decide_eq_true_eq]
  exact ⟨a, b⟩
section
variable {L : Loop} {g : Int} {ts : List Int} (C C2 : Addr) (W : Wt) (h : okL L = true) (r : rowL L g ts)
include h r
theorem need_row_ok : S_need_row C C2 [encL L, encRow g ts] W = .rt .non W := by
  rw [S_need_row_L h (good_row g ts) (rowL_is r).2, if_pos (rowL_is r).1]
theorem F_starts_ok : F_starts C C2 [encL L, encRow g ts] W = .rt (.lst ((allX L g ts).map fun s => .int s.m)) W := by
  have a := need_row_ok C C2 W h r
  have b := F_moments_ok L g ts W h (rowL_ok h r)
  unfold F_starts r_starts
  generalize F_moments = F at b ⊢
  simp only [a, b, ↓zzU, ↓zzP, zzQ, start0, List.map_cons, List.map_nil, List.length_cons, List.length_nil, List.cons_append, List.nil_append, List.replicate, D.bl.injEq, D.int.injEq, D.str.injEq, D.tup.injEq, D.lst.injEq, Option.some.injEq, Option.isSome_some, Bool.false_eq_true, if_true, if_false, true_and, and_true, false_and, and_false, Bool.not_true, Bool.not_false, Nat.reduceAdd, Nat.reduceSub, Nat.sub_self, Nat.zero_add, List.any_cons, List.any_nil, Bool.or_false, Bool.and_true, List.isEmpty_nil, List.isEmpty_cons, Bool.and_false, Bool.or_true, Bool.false_or, Bool.true_or, Bool.false_and, Bool.true_and, List.foldr_cons, List.foldr_nil, List.set_cons_zero, List.set_cons_succ, Nat.reduceEqDiff, beq_self_eq_true, eq_self, decide_true, decide_false, ↓zP2, zQ2, zzW]
theorem F_latenesses_ok : F_latenesses C C2 [encL L, encRow g ts] W = .rt (.lst ((allX L g ts).map fun s => .int s.l)) W := by
  have a := need_row_ok C C2 W h r
  have b := F_states_of_ok L g ts W h (rowL_ok h r)
  unfold F_latenesses r_latenesses
  change F_states_of [encL L, encRow g ts] W = _ at b
  generalize F_states_of = F at b ⊢
  have hl : (allX L g ts).length ≤ 1000001 := by rw [allX_len]; have := r.2.2.1; omega
  simp only [a, b, ↓zzU, ↓zzP, zzQ, start0, List.map_cons, List.map_nil, List.length_cons, List.length_nil, List.cons_append, List.nil_append, List.replicate, D.bl.injEq, D.int.injEq, D.str.injEq, D.tup.injEq, D.lst.injEq, Option.some.injEq, Option.isSome_some, Bool.false_eq_true, if_true, if_false, true_and, and_true, false_and, and_false, Bool.not_true, Bool.not_false, Nat.reduceAdd, Nat.reduceSub, Nat.sub_self, Nat.zero_add, List.any_cons, List.any_nil, Bool.or_false, Bool.and_true, List.isEmpty_nil, List.isEmpty_cons, Bool.and_false, Bool.or_true, Bool.false_or, Bool.true_or, Bool.false_and, Bool.true_and, List.foldr_cons, List.foldr_nil, List.set_cons_zero, List.set_cons_succ, Nat.reduceEqDiff, beq_self_eq_true, eq_self, decide_true, decide_false, ↓zP3, zQ3, zzW]
  refine lcR_map' encX (fun s => .int s.l) (allX L g ts) [] (by simp only [List.length_nil]; exact szl (m := 1000001) (by omega)) (fun x _ => ⟨⟨[.val (encL L), .val (encRow g ts), .val (encX x)], W⟩, rfl, fun k' => ?_⟩) ?_
  · cases x with | mk m l f =>
    simp only [encX, ↓zzU, ↓zzP, zzQ, start0, List.map_cons, List.map_nil, List.length_cons, List.length_nil, List.cons_append, List.nil_append, List.replicate, D.bl.injEq, D.int.injEq, D.str.injEq, D.tup.injEq, D.lst.injEq, Option.some.injEq, Option.isSome_some, Bool.false_eq_true, if_true, if_false, true_and, and_true, false_and, and_false, Bool.not_true, Bool.not_false, Nat.reduceAdd, Nat.reduceSub, Nat.sub_self, Nat.zero_add, List.any_cons, List.any_nil, Bool.or_false, Bool.and_true, List.isEmpty_nil, List.isEmpty_cons, Bool.and_false, Bool.or_true, Bool.false_or, Bool.true_or, Bool.false_and, Bool.true_and, List.foldr_cons, List.foldr_nil, List.set_cons_zero, List.set_cons_succ, Nat.reduceEqDiff, beq_self_eq_true, eq_self, decide_true, decide_false, ↓zP3, zQ3, zzW]
  · rfl
/-- the numbers of the statements that are done -/
def doneL (L : Loop) (g : Int) (ts : List Int) : List Int := isort (keysL [] (numsL L g (begX L g) ts))
theorem F_done_ok : F_done C C2 [encL L, encRow g ts] W = .rt (.lst ((doneL L g ts).map D.int)) W := by
  have a := need_row_ok C C2 W h r
  have b := F_states_of_ok L g ts W h (rowL_ok h r)
  unfold F_done r_done
  change F_states_of [encL L, encRow g ts] W = _ at b
  generalize F_states_of = F at b ⊢
  have s : fSorted [.lst ((keysL [] (numsL L g (begX L g) ts)).map D.int)] = some (.lst ((doneL L g ts).map D.int)) := by
    simp only [fSorted, ints_map, Option.map_some, doneL]
  simp only [a, b, s, ↓zzU, ↓zzP, zzQ, start0, List.map_cons, List.map_nil, List.length_cons, List.length_nil, List.cons_append, List.nil_append, List.replicate, D.bl.injEq, D.int.injEq, D.str.injEq, D.tup.injEq, D.lst.injEq, Option.some.injEq, Option.isSome_some, Bool.false_eq_true, if_true, if_false, true_and, and_true, false_and, and_false, Bool.not_true, Bool.not_false, Nat.reduceAdd, Nat.reduceSub, Nat.sub_self, Nat.zero_add, List.any_cons, List.any_nil, Bool.or_false, Bool.and_true, List.isEmpty_nil, List.isEmpty_cons, Bool.and_false, Bool.or_true, Bool.false_or, Bool.true_or, Bool.false_and, Bool.true_and, List.foldr_cons, List.foldr_nil, List.set_cons_zero, List.set_cons_succ, Nat.reduceEqDiff, beq_self_eq_true, eq_self, decide_true, decide_false, ↓zP2, zQ2, zzW]
end
end Kt
set_option Elab.async false
set_option linter.all false
set_option maxRecDepth 100000
set_option maxHeartbeats 4000000
namespace Kt
open PySem PySem.Spec L2 Pl
def r__law_size (F__law_size : RFn) : RS := (rSeq (rSet 1 (rC (.int 0)))
      (rSeq (rFor (rIter (rVar 0)) (rgName 2)
      (rSeq (rSet 1 (rOp fAdd (rVar 1) (rC (.int 1))))
      (rIfS (rTest (rOp fEq (rIxK (rkVar 2) (rC (.int 0))) (rC (.str "if")))) (rSet 1 (rOp fAdd (rOp fAdd (rVar 1) (rCall 1 F__law_size (rCons (rIxK (rkVar 2) (rC (.int 2))) rNil))) (rCall 1 F__law_size (rCons (rIxK (rkVar 2) (rC (.int 3))) rNil)))) rNext)))
      (rRet (rVar 1))))
def r__law_do (F__law_do : RFn) (F__law_size : RFn) : RS := (rFor (rIter (rVar 0)) (rgName 4)
      (rSeq (rPar 5 6 (rCons (rIxK (rkVar 4) (rC (.int 0))) (rCons (rVar 1) rNil)))
      (rSeq (rAppend (rkOf (rIxK (rkVar 2) (rC (.str "done")))) (rVar 6))
      (rSeq (rSet 1 (rOp fAdd (rVar 1) (rCall 1 F__law_size (rCons (rTup (rCons (rVar 4) rNil)) rNil))))
      (rIfS (rTest (rOp fEq (rVar 5) (rC (.str "if")))) (rSeq (rPar 7 8 (rCons (rIxK (rkVar 4) (rC (.int 1))) (rCons (rIxK (rkVar 2) (rC (.str "flag"))) rNil)))
      (rSeq (rIfS (rTest (rOp fEq (rIxK (rkVar 7) (rC (.int 0))) (rC (.str "due")))) (rSet 8 (rOp fGe (rIxK (rkVar 2) (rC (.str "late"))) (rC (.int 0)))) (rIfS (rTest (rOp fEq (rIxK (rkVar 7) (rC (.int 0))) (rC (.str "late")))) (rSet 8 (rOp fGt (rIxK (rkVar 2) (rC (.str "late"))) (rOp fMul (rVar 3) (rIxK (rkVar 7) (rC (.int 1)))))) rNext))
      (rSeq (rSet 9 (rOp fAdd (rOp fAdd (rVar 6) (rC (.int 1))) (rIf (rTest (rVar 8)) (rC (.int 0)) (rCall 1 F__law_size (rCons (rIxK (rkVar 4) (rC (.int 2))) rNil)))))
      (rDrop (rCall 4 F__law_do (rCons (rIf (rTest (rVar 8)) (rIxK (rkVar 4) (rC (.int 2))) (rIxK (rkVar 4) (rC (.int 3)))) (rCons (rVar 9) (rCons (rVar 2) (rCons (rVar 3) rNil))))))))) (rIfS (rTest (rOp (fIn false) (rVar 5) (rTup (rCons (rC (.str "up")) (rCons (rC (.str "down")) rNil))))) (rStore (rOp fEq (rVar 5) (rC (.str "up"))) (rkVar 2) (rC (.str "flag"))) (rIfS (rTest (rOp fEq (rVar 5) (rC (.str "set")))) (rStore (rOp fMul (rUn fNeg (rVar 3)) (rIxK (rkVar 4) (rC (.int 1)))) (rkVar 2) (rC (.str "late"))) (rIfS (rTest (rOp fEq (rVar 5) (rC (.str "move")))) (rStore (rOp fSub (rIxK (rkVar 2) (rC (.str "late"))) (rOp fMul (rVar 3) (rIxK (rkVar 4) (rC (.int 1))))) (rkVar 2) (rC (.str "late"))) (rIfS (rTest (rOp fEq (rVar 5) (rC (.str "ahead")))) (rWhile whN (rTest (rOp fGe (rIxK (rkVar 2) (rC (.str "late"))) (rC (.int 0))))
      (rStore (rOp fSub (rIxK (rkVar 2) (rC (.str "late"))) (rOp fMul (rVar 3) (rIxK (rkVar 4) (rC (.int 1))))) (rkVar 2) (rC (.str "late")))) (rSeq (rSet 10 (rUn fNeg (rIxK (rkVar 2) (rC (.str "late")))))
      (rSeq (rIfS (rTest (rOp fNe (rVar 5) (rC (.str "until")))) (rSet 10 (rOp fSub (rOp fMul (rVar 3) (rIxK (rkVar 4) (rC (.int 1)))) (rIf (rTest (rOp fEq (rVar 5) (rC (.str "rest")))) (rIxK (rkVar 2) (rC (.str "gone"))) (rC (.int 0))))) rNext)
      (rSeq (rSet 10 (rCallB fMax2 (rCons (rC (.int 0)) (rCons (rVar 10) rNil))))
      (rAsg (rTup (rCons (rOp fAdd (rIxK (rkVar 2) (rC (.str "late"))) (rVar 10)) (rCons (rOp fAdd (rIxK (rkVar 2) (rC (.str "gone"))) (rVar 10)) rNil))) (rgTup 2 (rgCons (rgSub (rkVar 2) (rC (.str "late"))) (rgCons (rgSub (rkVar 2) (rC (.str "gone"))) rgNil))))))))))))))))
def F__law_size : Nat → RFn
  | 0 => fun _ _ => .bad
  | n + 1 => runD 3 (r__law_size (F__law_size n))
def F__law_do : Nat → RFn
  | 0 => fun _ _ => .bad
  | n + 1 => runD 11 (r__law_do (F__law_do n) (F__law_size 9))
end Kt
set_option Elab.async false
set_option linter.all false
set_option maxRecDepth 8000
set_option maxHeartbeats 1000000
/-! KtD1: what the laws' own rounds tell -/
namespace Kt
open PySem PySem.Spec L2 Pl
theorem F__law_size_ok (W : Wt) : ∀ (n d : Nat) (b : List Stm), d < n → okB d b = true → F__law_size n [encB b] W = .rt (.int (listedB b).length) W
  | 0, _, _, h, _ => by omega
  | n + 1, d, b, hd, hb => by
    obtain ⟨h8, hs⟩ := okB_iff.mp hb
    unfold F__law_size r__law_size
    simp only [encB_t, ↓zzU, ↓zzP, zzQ, start0, List.map_cons, List.map_nil, List.length_cons, List.length_nil, List.cons_append, List.nil_append, List.replicate, D.bl.injEq, D.int.injEq, D.str.injEq, D.tup.injEq, D.lst.injEq, Option.some.injEq, Option.isSome_some, Bool.false_eq_true, if_true, if_false, true_and, and_true, false_and, and_false, Bool.not_true, Bool.not_false, Nat.reduceAdd, Nat.reduceSub, Nat.sub_self, Nat.zero_add, List.any_cons, List.any_nil, Bool.or_false, Bool.and_true, List.isEmpty_nil, List.isEmpty_cons, Bool.and_false, Bool.or_true, Bool.false_or, Bool.true_or, Bool.false_and, Bool.true_and, List.foldr_cons, List.foldr_nil, List.set_cons_zero, List.set_cons_succ, Nat.reduceEqDiff, beq_self_eq_true, eq_self, decide_true, decide_false, ↓zP3, zQ3, zzW]
    refine forR_inv encS (fun r S => ∃ m s2, S = ⟨[.val (.tup (b.map encS)), .val (.int m), s2], W⟩ ∧ (∀ s ∈ r, okS d s = true) ∧ m + (listedB r).length = (listedB b).length) ?_ ?_ b _ ⟨0, _, rfl, hs, by omega⟩
    · rintro S ⟨m, s2, rfl, _, e⟩
      simp only [↓zzU, ↓zzP, zzQ, start0, List.map_cons, List.map_nil, List.length_cons, List.length_nil, List.cons_append, List.nil_append, List.replicate, D.bl.injEq, D.int.injEq, D.str.injEq, D.tup.injEq, D.lst.injEq, Option.some.injEq, Option.isSome_some, Bool.false_eq_true, if_true, if_false, true_and, and_true, false_and, and_false, Bool.not_true, Bool.not_false, Nat.reduceAdd, Nat.reduceSub, Nat.sub_self, Nat.zero_add, List.any_cons, List.any_nil, Bool.or_false, Bool.and_true, List.isEmpty_nil, List.isEmpty_cons, Bool.and_false, Bool.or_true, Bool.false_or, Bool.true_or, Bool.false_and, Bool.true_and, List.foldr_cons, List.foldr_nil, List.set_cons_zero, List.set_cons_succ, Nat.reduceEqDiff, beq_self_eq_true, eq_self, decide_true, decide_false, ↓zP3, zQ3, zzW]
      simp only [listedB, List.length_nil] at e
      rw [← e]; simp
    · rintro s r S ⟨m, s2, rfl, hr, e⟩ k hk
      have hs' := hr s (List.mem_cons_self ..)
      have hr' : ∀ x ∈ r, okS d x = true := fun x hx => hr x (List.mem_cons_of_mem _ hx)
      cases s with
      | ite t x y =>
        obtain ⟨d, rfl⟩ : ∃ e, d = e + 1 := by cases d with | zero => simp [okS] at hs' | succ d => exact ⟨d, rfl⟩
        obtain ⟨_, hx, hy⟩ := okS_ite.mp hs'
        have i1 := F__law_size_ok W n d x (by omega) hx
        have i2 := F__law_size_ok W n d y (by omega) hy
        simp only [con_S, ixS_0, ixS_wait, ixS_rest, ixS_move, ixS_ahead, ixS_set, ixS_ite1, ixS_ite2, ixS_ite3, wS_wait, wS_rest, wS_move, wS_ahead, wS_set, wS_until, wS_up, wS_down, wS_ite, i1, i2, ↓zzU, ↓zzP, zzQ, start0, List.map_cons, List.map_nil, List.length_cons, List.length_nil, List.cons_append, List.nil_append, List.replicate, D.bl.injEq, D.int.injEq, D.str.injEq, D.tup.injEq, D.lst.injEq, Option.some.injEq, Option.isSome_some, Bool.false_eq_true, if_true, if_false, true_and, and_true, false_and, and_false, Bool.not_true, Bool.not_false, Nat.reduceAdd, Nat.reduceSub, Nat.sub_self, Nat.zero_add, List.any_cons, List.any_nil, Bool.or_false, Bool.and_true, List.isEmpty_nil, List.isEmpty_cons, Bool.and_false, Bool.or_true, Bool.false_or, Bool.true_or, Bool.false_and, Bool.true_and, List.foldr_cons, List.foldr_nil, List.set_cons_zero, List.set_cons_succ, Nat.reduceEqDiff, beq_self_eq_true, eq_self, decide_true, decide_false, ↓zP3, zQ3, zzW]
        refine hk _ ⟨_, _, rfl, hr', ?_⟩
        rw [← e]
        simp only [listedB, listedS, List.length_append, List.length_cons]; omega
      | _ =>
        simp only [con_S, ixS_0, ixS_wait, ixS_rest, ixS_move, ixS_ahead, ixS_set, ixS_ite1, ixS_ite2, ixS_ite3, wS_wait, wS_rest, wS_move, wS_ahead, wS_set, wS_until, wS_up, wS_down, wS_ite, ↓zzU, ↓zzP, zzQ, start0, List.map_cons, List.map_nil, List.length_cons, List.length_nil, List.cons_append, List.nil_append, List.replicate, D.bl.injEq, D.int.injEq, D.str.injEq, D.tup.injEq, D.lst.injEq, Option.some.injEq, Option.isSome_some, Bool.false_eq_true, if_true, if_false, true_and, and_true, false_and, and_false, Bool.not_true, Bool.not_false, Nat.reduceAdd, Nat.reduceSub, Nat.sub_self, Nat.zero_add, List.any_cons, List.any_nil, Bool.or_false, Bool.and_true, List.isEmpty_nil, List.isEmpty_cons, Bool.and_false, Bool.or_true, Bool.false_or, Bool.true_or, Bool.false_and, Bool.true_and, List.foldr_cons, List.foldr_nil, List.set_cons_zero, List.set_cons_succ, Nat.reduceEqDiff, beq_self_eq_true, eq_self, decide_true, decide_false, ↓zP3, zQ3, zzW]
        refine hk _ ⟨_, _, rfl, hr', ?_⟩
        rw [← e]
        simp only [listedB, listedS, List.length_append, List.length_cons, List.length_nil]; omega
/-! the dict of a round -/
def nowK : List D := [.str "gone", .str "late", .str "flag", .str "done"]
def nowV (l : Addr) (r : Rn) : List D := [.int r.gone, .int r.late, .bl r.flag, .adr l]
def now (W : Wt) (a l : Addr) (r : Rn) : Wt := updW (updW W l (.lst (r.nums.map D.int))) a (.dct nowK (nowV l r))
theorem now_a (ρ : List Slot) (W : Wt) (a l : Addr) (r : Rn) : con ⟨ρ, now W a l r⟩ (.val (.adr a)) = .own (.dct nowK (nowV l r)) := con_updW ..
theorem now_l (ρ : List Slot) (W : Wt) {a l : Addr} (r : Rn) (h : l ≠ a) : con ⟨ρ, now W a l r⟩ (.val (.adr l)) = .own (.lst (r.nums.map D.int)) := by
  refine con_own ?_
  unfold now updW
  rw [if_neg h, if_pos rfl]
theorem nq1 : (("gone" : Str) == "late") = false := by decide +kernel
theorem nq2 : (("gone" : Str) == "flag") = false := by decide +kernel
theorem nq3 : (("gone" : Str) == "done") = false := by decide +kernel
theorem nq4 : (("late" : Str) == "gone") = false := by decide +kernel
theorem nq5 : (("late" : Str) == "done") = false := by decide +kernel
theorem nq6 : (("flag" : Str) == "done") = false := by decide +kernel
theorem nq7 : (("late" : Str) == "flag") = false := by decide +kernel
theorem get_gone (x y z u : D) : dget nowK [x, y, z, u] (.str "gone") = some x := by
  simp only [dget, nowK, List.zip_cons_cons, List.zip_nil_right, List.find?_cons, eqD_str, beq_self_eq_true, Option.map_some]
theorem get_late (x y z u : D) : dget nowK [x, y, z, u] (.str "late") = some y := by
  simp only [dget, nowK, List.zip_cons_cons, List.zip_nil_right, List.find?_cons, eqD_str, beq_self_eq_true, Option.map_some, nq1]
theorem get_flag (x y z u : D) : dget nowK [x, y, z, u] (.str "flag") = some z := by
  simp only [dget, nowK, List.zip_cons_cons, List.zip_nil_right, List.find?_cons, eqD_str, beq_self_eq_true, Option.map_some, nq2, nq7]
theorem get_done (x y z u : D) : dget nowK [x, y, z, u] (.str "done") = some u := by
  simp only [dget, nowK, List.zip_cons_cons, List.zip_nil_right, List.find?_cons, eqD_str, beq_self_eq_true, Option.map_some, nq3, nq5, nq6]
theorem nr1 : (("flag" : Str) == "late") = false := by decide +kernel
theorem nr2 : (("done" : Str) == "late") = false := by decide +kernel
theorem nr3 : (("flag" : Str) == "gone") = false := by decide +kernel
theorem nr4 : (("done" : Str) == "gone") = false := by decide +kernel
theorem nr5 : (("done" : Str) == "flag") = false := by decide +kernel
theorem put_gone (x y z u v : D) : dput nowK [x, y, z, u] (.str "gone") v = (nowK, [v, y, z, u]) := by
  simp only [dput, nowK, List.any_cons, List.any_nil, eqD_str, beq_self_eq_true, Bool.true_or, if_true, List.zip_cons_cons, List.zip_nil_right, List.map_cons, List.map_nil, nq4, nr3, nr4, Bool.false_eq_true, if_false]
theorem put_late (x y z u v : D) : dput nowK [x, y, z, u] (.str "late") v = (nowK, [x, v, z, u]) := by
  simp only [dput, nowK, List.any_cons, List.any_nil, eqD_str, beq_self_eq_true, Bool.true_or, Bool.or_true, if_true, List.zip_cons_cons, List.zip_nil_right, List.map_cons, List.map_nil, nq1, nr1, nr2, Bool.false_eq_true, if_false]
theorem put_flag (x y z u v : D) : dput nowK [x, y, z, u] (.str "flag") v = (nowK, [x, y, v, u]) := by
  simp only [dput, nowK, List.any_cons, List.any_nil, eqD_str, beq_self_eq_true, Bool.true_or, Bool.or_true, if_true, List.zip_cons_cons, List.zip_nil_right, List.map_cons, List.map_nil, nq2, nq7, nr5, Bool.false_eq_true, if_false]
theorem now_len : nowK.length < sizeLine := by decide
theorem now_g (W : Wt) (a l : Addr) (r : Rn) (x : Int) : updW (now W a l r) a (.dct nowK [.int x, .int r.late, .bl r.flag, .adr l]) = now W a l { r with gone := x } := by rw [now, updW_upd]; rfl
theorem now_t (W : Wt) (a l : Addr) (r : Rn) (x : Int) : updW (now W a l r) a (.dct nowK [.int r.gone, .int x, .bl r.flag, .adr l]) = now W a l { r with late := x } := by rw [now, updW_upd]; rfl
theorem now_f (W : Wt) (a l : Addr) (r : Rn) (x : Bool) : updW (now W a l r) a (.dct nowK [.int r.gone, .int r.late, .bl x, .adr l]) = now W a l { r with flag := x } := by rw [now, updW_upd]; rfl
theorem now_2 (W : Wt) (a l : Addr) (r : Rn) (x y : Int) : updW (now W a l r) a (.dct nowK [.int x, .int y, .bl r.flag, .adr l]) = now W a l { r with gone := x, late := y } := by rw [now, updW_upd]; rfl
theorem now_n (W : Wt) {a l : Addr} (r : Rn) (h : l ≠ a) (n : Int) : updW (now W a l r) l (.lst (r.nums.map D.int ++ [.int n])) = now W a l { r with nums := r.nums ++ [n] } := by
  funext b
  simp only [now, updW, List.map_append, List.map_cons, List.map_nil]
  by_cases h1 : b = l
  · subst h1; simp [h]
  · simp [h1]; rfl
/-- the mark moved on until it is ahead -/
def aheadL (g n late : Int) : Int := if 0 ≤ late then late - g * n * (late / (g * n) + 1) else late
theorem ahead_step {g n late : Int} (p : 0 < g * n) (h : 0 ≤ late) : aheadL g n (late - g * n) = aheadL g n late := by
  unfold aheadL
  rw [if_pos h]
  have e : (late - g * n) / (g * n) = late / (g * n) - 1 := by
    rw [Int.sub_ediv_of_dvd _ (Int.dvd_refl _), Int.ediv_self (by omega)]
  split
  · rw [e, Int.sub_add_cancel, Int.mul_add, Int.mul_one]; omega
  · rename_i c
    have : late / (g * n) = 0 := Int.ediv_eq_zero_of_lt h (by omega)
    rw [this]; omega
theorem law_wh (W : Wt) {a l : Addr} (ha : l ≠ a) {g n : Int} (p : 0 < g * n) (mu : cMul g n = true) (K : Ks) (s0 s1 s5 s6 s7 s8 s9 s10 : Slot) : ∀ (m : Nat) (r : Rn), r.late < g * n * m →
    whR (rTest (rOp fGe (rIxK (rkVar 2) (rC (.str "late"))) (rC (.int 0)))) (rStore (rOp fSub (rIxK (rkVar 2) (rC (.str "late"))) (rOp fMul (rVar 3) (rIxK (rkVar 4) (rC (.int 1))))) (rkVar 2) (rC (.str "late"))) K (m + 1)
      ⟨[s0, s1, .val (.adr a), .val (.int g), .val (encS (.ahead n)), s5, s6, s7, s8, s9, s10], now W a l r⟩ = K.nx ⟨[s0, s1, .val (.adr a), .val (.int g), .val (encS (.ahead n)), s5, s6, s7, s8, s9, s10], now W a l { r with late := aheadL g n r.late }⟩
  | m, r, hm => by
    have hA := now_a
    simp only [whR_succ, now_a, nowV, get_late, dec_ite, ↓zzU, ↓zzP, zzQ, start0, List.map_cons, List.map_nil, List.length_cons, List.length_nil, List.cons_append, List.nil_append, List.replicate, D.bl.injEq, D.int.injEq, D.str.injEq, D.tup.injEq, D.lst.injEq, Option.some.injEq, Option.isSome_some, Bool.false_eq_true, if_true, if_false, true_and, and_true, false_and, and_false, Bool.not_true, Bool.not_false, Nat.reduceAdd, Nat.reduceSub, Nat.sub_self, Nat.zero_add, List.any_cons, List.any_nil, Bool.or_false, Bool.and_true, List.isEmpty_nil, List.isEmpty_cons, Bool.and_false, Bool.or_true, Bool.false_or, Bool.true_or, Bool.false_and, Bool.true_and, List.foldr_cons, List.foldr_nil, List.set_cons_zero, List.set_cons_succ, Nat.reduceEqDiff, beq_self_eq_true, eq_self, decide_true, decide_false, ↓zP11, zQ11, zzW]
    by_cases h : 0 ≤ r.late
    · rw [if_pos h]
      cases m with
      | zero => simp at hm; omega
      | succ m =>
        have e : g * n * ((m + 1 : Nat) : Int) = g * n * (m : Int) + g * n := by rw [Int.natCast_add, Int.mul_add]; simp
        have ih := law_wh W ha p mu K s0 s1 s5 s6 s7 s8 s9 s10 m { r with late := r.late - g * n } (by show r.late - g * n < _; omega)
        simp only [now_a, nowV, get_late, con_S, ixS_0, ixS_wait, ixS_rest, ixS_move, ixS_ahead, ixS_set, ixS_ite1, ixS_ite2, ixS_ite3, wS_wait, wS_rest, wS_move, wS_ahead, wS_set, wS_until, wS_up, wS_down, wS_ite, mu, put_late, now_len, now_t, ↓zzU, ↓zzP, zzQ, start0, List.map_cons, List.map_nil, List.length_cons, List.length_nil, List.cons_append, List.nil_append, List.replicate, D.bl.injEq, D.int.injEq, D.str.injEq, D.tup.injEq, D.lst.injEq, Option.some.injEq, Option.isSome_some, Bool.false_eq_true, if_true, if_false, true_and, and_true, false_and, and_false, Bool.not_true, Bool.not_false, Nat.reduceAdd, Nat.reduceSub, Nat.sub_self, Nat.zero_add, List.any_cons, List.any_nil, Bool.or_false, Bool.and_true, List.isEmpty_nil, List.isEmpty_cons, Bool.and_false, Bool.or_true, Bool.false_or, Bool.true_or, Bool.false_and, Bool.true_and, List.foldr_cons, List.foldr_nil, List.set_cons_zero, List.set_cons_succ, Nat.reduceEqDiff, beq_self_eq_true, eq_self, decide_true, decide_false, ↓zP11, zQ11, zzW]
        rw [ih]
        simp only [ahead_step p h]
    · rw [if_neg h]
      simp only [aheadL, if_neg h]
theorem max_wait {x : Int} (h : 0 ≤ x) : gMax 0 x = x := by unfold gMax; split <;> omega
theorem F__law_do_ok (W : Wt) {a l : Addr} (ha : l ≠ a) (g : Int) (hg : 1 ≤ g) : ∀ (n d : Nat) (b : List Stm) (first : Int) (r : Rn) (M : Nat), d < n → d ≤ 4 → okB d b = true → RnB g M r → M + 8 * (listedB b).length ≤ 100000000 → r.nums.length + (listedB b).length ≤ 16000000 →
    F__law_do n [encB b, .int first, .adr a, .int g] (now W a l r) = .rt .non (now W a l (runB b first r g))
  | 0, _, _, _, _, _, h, _, _, _, _, _ => by omega
  | n + 1, d, b, first, r, M, hd, h4, hb, hr, hM, hn => by
    obtain ⟨h8, hs⟩ := okB_iff.mp hb
    unfold F__law_do r__law_do
    simp only [encB_t, ↓zzU, ↓zzP, zzQ, start0, List.map_cons, List.map_nil, List.length_cons, List.length_nil, List.cons_append, List.nil_append, List.replicate, D.bl.injEq, D.int.injEq, D.str.injEq, D.tup.injEq, D.lst.injEq, Option.some.injEq, Option.isSome_some, Bool.false_eq_true, if_true, if_false, true_and, and_true, false_and, and_false, Bool.not_true, Bool.not_false, Nat.reduceAdd, Nat.reduceSub, Nat.sub_self, Nat.zero_add, List.any_cons, List.any_nil, Bool.or_false, Bool.and_true, List.isEmpty_nil, List.isEmpty_cons, Bool.and_false, Bool.or_true, Bool.false_or, Bool.true_or, Bool.false_and, Bool.true_and, List.foldr_cons, List.foldr_nil, List.set_cons_zero, List.set_cons_succ, Nat.reduceEqDiff, beq_self_eq_true, eq_self, decide_true, decide_false, ↓zP11, zQ11, zzW]
    refine forR_inv encS (fun x S => ∃ f r' s4 s5 s6 s7 s8 s9 s10 M', S = ⟨[.val (.tup (b.map encS)), .val (.int f), .val (.adr a), .val (.int g), s4, s5, s6, s7, s8, s9, s10], now W a l r'⟩ ∧
      (∀ s ∈ x, okS d s = true) ∧ x.length ≤ 8 ∧ runB x f r' g = runB b first r g ∧ RnB g M' r' ∧ M' + 8 * (listedB x).length ≤ 100000000 ∧ r'.nums.length + (listedB x).length ≤ 16000000) ?_ ?_ b _ ⟨first, r, _, _, _, _, _, _, _, M, rfl, hs, h8, rfl, hr, hM, hn⟩
    · rintro S ⟨f, r', s4, s5, s6, s7, s8, s9, s10, M', rfl, _, _, e, _⟩
      rw [← e]
      rfl
    · rintro s x S ⟨f, r', s4, s5, s6, s7, s8, s9, s10, M', rfl, hx, hl, e, hb', hM', hn'⟩ k hk
      have hs' := hx s (List.mem_cons_self ..)
      have hx' : ∀ y ∈ x, okS d y = true := fun y hy => hx y (List.mem_cons_of_mem _ hy)
      have pos := listedS_pos s
      simp only [listedB, List.length_append, List.length_cons] at hM' hn' hl
      have go : ∀ s4 s5 s6 s7 s8 s9 s10, k ⟨[.val (.tup (b.map encS)), .val (.int (f + (listedS s).length)), .val (.adr a), .val (.int g), s4, s5, s6, s7, s8, s9, s10], now W a l (runS s f r' g)⟩ = .rt .non (now W a l (runB b first r g)) := fun s4 s5 s6 s7 s8 s9 s10 => by
        have b1 := runS_bnd hg s d f r' M' hs' hb'
        have b2 := runS_nums s f r' g
        exact hk _ ⟨_, runS s f r' g, s4, s5, s6, s7, s8, s9, s10, _, rfl, hx', by omega, e, b1, by omega, by omega⟩
      obtain ⟨d, rfl⟩ : ∃ e, d = e + 1 := by cases d with | zero => simp [okS] at hs' | succ d => exact ⟨d, rfl⟩
      have hc : (r'.nums.map D.int).length < sizeLine := by rw [List.length_map]; show _ < 2 ^ 24; omega
      have sz := F__law_size_ok (now W a l { r' with nums := r'.nums ++ [f] }) 9 (d + 1) [s] (by omega) (okB_iff.mpr ⟨by simp, fun y hy => by rw [List.mem_singleton.mp hy]; exact hs'⟩)
      simp only [encB_t, List.map_cons, List.map_nil, listedB, List.append_nil] at sz
      simp only [con_S, ixS_0, ixS_wait, ixS_rest, ixS_move, ixS_ahead, ixS_set, ixS_ite1, ixS_ite2, ixS_ite3, wS_wait, wS_rest, wS_move, wS_ahead, wS_set, wS_until, wS_up, wS_down, wS_ite, now_a, nowV, get_done, now_l _ _ _ ha, hc, now_n _ _ ha, sz, ↓zzU, ↓zzP, zzQ, start0, List.map_cons, List.map_nil, List.length_cons, List.length_nil, List.cons_append, List.nil_append, List.replicate, D.bl.injEq, D.int.injEq, D.str.injEq, D.tup.injEq, D.lst.injEq, Option.some.injEq, Option.isSome_some, Bool.false_eq_true, if_true, if_false, true_and, and_true, false_and, and_false, Bool.not_true, Bool.not_false, Nat.reduceAdd, Nat.reduceSub, Nat.sub_self, Nat.zero_add, List.any_cons, List.any_nil, Bool.or_false, Bool.and_true, List.isEmpty_nil, List.isEmpty_cons, Bool.and_false, Bool.or_true, Bool.false_or, Bool.true_or, Bool.false_and, Bool.true_and, List.foldr_cons, List.foldr_nil, List.set_cons_zero, List.set_cons_succ, Nat.reduceEqDiff, beq_self_eq_true, eq_self, decide_true, decide_false, ↓zP11, zQ11, zzW]
      have u := go
      cases s with
      | ite t x1 y1 =>
        obtain ⟨ht, h1, h2⟩ := okS_ite.mp hs'
        simp only [listedS, List.length_cons, List.length_append] at hM' hn'
        have q1 := F__law_size_ok (now W a l { r' with nums := r'.nums ++ [f] }) 9 d x1 (by omega) h1
        have i1 := F__law_do_ok W ha g hg n d x1 (f + 1) { r' with nums := r'.nums ++ [f] } M' (by omega) (by omega) h1 ⟨hb'.go, hb'.la⟩ (by omega) (by simp only [List.length_append, List.length_singleton]; omega)
        have i2 := F__law_do_ok W ha g hg n d y1 (f + 1 + (listedB x1).length) { r' with nums := r'.nums ++ [f] } M' (by omega) (by omega) h2 ⟨hb'.go, hb'.la⟩ (by omega) (by simp only [List.length_append, List.length_singleton]; omega)
        have fin : ∀ (hh : Bool), holdsT t r'.late r'.flag g = hh → ∀ s4 s5 s6 s7 s8 s9 s10, k ⟨[.val (.tup (b.map encS)), .val (.int (f + ((listedS (.ite t x1 y1)).length : Int))), .val (.adr a), .val (.int g), s4, s5, s6, s7, s8, s9, s10], now W a l (if hh = true then runB x1 (f + 1) { r' with nums := r'.nums ++ [f] } g else runB y1 (f + 1 + (listedB x1).length) { r' with nums := r'.nums ++ [f] } g)⟩ = .rt .non (now W a l (runB b first r g)) := fun hh e s4 s5 s6 s7 s8 s9 s10 => by
          have := u s4 s5 s6 s7 s8 s9 s10
          simp only [runS, e] at this
          exact this
        cases t with
        | late m =>
          have mu : cMul g m = true := mulR ht (by decide) (by decide)
          simp only [con_S, ixS_0, ixS_wait, ixS_rest, ixS_move, ixS_ahead, ixS_set, ixS_ite1, ixS_ite2, ixS_ite3, wS_wait, wS_rest, wS_move, wS_ahead, wS_set, wS_until, wS_up, wS_down, wS_ite, now_a, nowV, get_flag, get_late, con_T, ixT_0, ixT_late, wT_late, mu, q1, Int.add_zero, dec_ite, ↓zzU, ↓zzP, zzQ, start0, List.map_cons, List.map_nil, List.length_cons, List.length_nil, List.cons_append, List.nil_append, List.replicate, D.bl.injEq, D.int.injEq, D.str.injEq, D.tup.injEq, D.lst.injEq, Option.some.injEq, Option.isSome_some, Bool.false_eq_true, if_true, if_false, true_and, and_true, false_and, and_false, Bool.not_true, Bool.not_false, Nat.reduceAdd, Nat.reduceSub, Nat.sub_self, Nat.zero_add, List.any_cons, List.any_nil, Bool.or_false, Bool.and_true, List.isEmpty_nil, List.isEmpty_cons, Bool.and_false, Bool.or_true, Bool.false_or, Bool.true_or, Bool.false_and, Bool.true_and, List.foldr_cons, List.foldr_nil, List.set_cons_zero, List.set_cons_succ, Nat.reduceEqDiff, beq_self_eq_true, eq_self, decide_true, decide_false, ↓zP11, zQ11, zzW]
          have fin := fin _ rfl
          simp only [holdsT, decide_eq_true_eq] at fin
          by_cases c : g * m < r'.late
          · simp only [c, i1, ↓zzU, ↓zzP, zzQ, start0, List.map_cons, List.map_nil, List.length_cons, List.length_nil, List.cons_append, List.nil_append, List.replicate, D.bl.injEq, D.int.injEq, D.str.injEq, D.tup.injEq, D.lst.injEq, Option.some.injEq, Option.isSome_some, Bool.false_eq_true, if_true, if_false, true_and, and_true, false_and, and_false, Bool.not_true, Bool.not_false, Nat.reduceAdd, Nat.reduceSub, Nat.sub_self, Nat.zero_add, List.any_cons, List.any_nil, Bool.or_false, Bool.and_true, List.isEmpty_nil, List.isEmpty_cons, Bool.and_false, Bool.or_true, Bool.false_or, Bool.true_or, Bool.false_and, Bool.true_and, List.foldr_cons, List.foldr_nil, List.set_cons_zero, List.set_cons_succ, Nat.reduceEqDiff, beq_self_eq_true, eq_self, decide_true, decide_false, ↓zP11, zQ11, zzW]
            have fin := fin
            simp only [c, if_true] at fin
            exact fin _ _ _ _ _ _ _
          · simp only [c, i2, con_S, ixS_0, ixS_wait, ixS_rest, ixS_move, ixS_ahead, ixS_set, ixS_ite1, ixS_ite2, ixS_ite3, wS_wait, wS_rest, wS_move, wS_ahead, wS_set, wS_until, wS_up, wS_down, wS_ite, q1, ↓zzU, ↓zzP, zzQ, start0, List.map_cons, List.map_nil, List.length_cons, List.length_nil, List.cons_append, List.nil_append, List.replicate, D.bl.injEq, D.int.injEq, D.str.injEq, D.tup.injEq, D.lst.injEq, Option.some.injEq, Option.isSome_some, Bool.false_eq_true, if_true, if_false, true_and, and_true, false_and, and_false, Bool.not_true, Bool.not_false, Nat.reduceAdd, Nat.reduceSub, Nat.sub_self, Nat.zero_add, List.any_cons, List.any_nil, Bool.or_false, Bool.and_true, List.isEmpty_nil, List.isEmpty_cons, Bool.and_false, Bool.or_true, Bool.false_or, Bool.true_or, Bool.false_and, Bool.true_and, List.foldr_cons, List.foldr_nil, List.set_cons_zero, List.set_cons_succ, Nat.reduceEqDiff, beq_self_eq_true, eq_self, decide_true, decide_false, ↓zP11, zQ11, zzW]
            have fin := fin
            simp only [c, if_false] at fin
            exact fin _ _ _ _ _ _ _
        | due =>
          simp only [con_S, ixS_0, ixS_wait, ixS_rest, ixS_move, ixS_ahead, ixS_set, ixS_ite1, ixS_ite2, ixS_ite3, wS_wait, wS_rest, wS_move, wS_ahead, wS_set, wS_until, wS_up, wS_down, wS_ite, now_a, nowV, get_flag, get_late, con_T, ixT_0, wT_due, q1, Int.add_zero, dec_ite, ↓zzU, ↓zzP, zzQ, start0, List.map_cons, List.map_nil, List.length_cons, List.length_nil, List.cons_append, List.nil_append, List.replicate, D.bl.injEq, D.int.injEq, D.str.injEq, D.tup.injEq, D.lst.injEq, Option.some.injEq, Option.isSome_some, Bool.false_eq_true, if_true, if_false, true_and, and_true, false_and, and_false, Bool.not_true, Bool.not_false, Nat.reduceAdd, Nat.reduceSub, Nat.sub_self, Nat.zero_add, List.any_cons, List.any_nil, Bool.or_false, Bool.and_true, List.isEmpty_nil, List.isEmpty_cons, Bool.and_false, Bool.or_true, Bool.false_or, Bool.true_or, Bool.false_and, Bool.true_and, List.foldr_cons, List.foldr_nil, List.set_cons_zero, List.set_cons_succ, Nat.reduceEqDiff, beq_self_eq_true, eq_self, decide_true, decide_false, ↓zP11, zQ11, zzW]
          have fin := fin _ rfl
          simp only [holdsT, decide_eq_true_eq] at fin
          by_cases c : 0 ≤ r'.late
          · simp only [c, i1, ↓zzU, ↓zzP, zzQ, start0, List.map_cons, List.map_nil, List.length_cons, List.length_nil, List.cons_append, List.nil_append, List.replicate, D.bl.injEq, D.int.injEq, D.str.injEq, D.tup.injEq, D.lst.injEq, Option.some.injEq, Option.isSome_some, Bool.false_eq_true, if_true, if_false, true_and, and_true, false_and, and_false, Bool.not_true, Bool.not_false, Nat.reduceAdd, Nat.reduceSub, Nat.sub_self, Nat.zero_add, List.any_cons, List.any_nil, Bool.or_false, Bool.and_true, List.isEmpty_nil, List.isEmpty_cons, Bool.and_false, Bool.or_true, Bool.false_or, Bool.true_or, Bool.false_and, Bool.true_and, List.foldr_cons, List.foldr_nil, List.set_cons_zero, List.set_cons_succ, Nat.reduceEqDiff, beq_self_eq_true, eq_self, decide_true, decide_false, ↓zP11, zQ11, zzW]
            have fin := fin
            simp only [c, if_true] at fin
            exact fin _ _ _ _ _ _ _
          · simp only [c, i2, con_S, ixS_0, ixS_wait, ixS_rest, ixS_move, ixS_ahead, ixS_set, ixS_ite1, ixS_ite2, ixS_ite3, wS_wait, wS_rest, wS_move, wS_ahead, wS_set, wS_until, wS_up, wS_down, wS_ite, q1, ↓zzU, ↓zzP, zzQ, start0, List.map_cons, List.map_nil, List.length_cons, List.length_nil, List.cons_append, List.nil_append, List.replicate, D.bl.injEq, D.int.injEq, D.str.injEq, D.tup.injEq, D.lst.injEq, Option.some.injEq, Option.isSome_some, Bool.false_eq_true, if_true, if_false, true_and, and_true, false_and, and_false, Bool.not_true, Bool.not_false, Nat.reduceAdd, Nat.reduceSub, Nat.sub_self, Nat.zero_add, List.any_cons, List.any_nil, Bool.or_false, Bool.and_true, List.isEmpty_nil, List.isEmpty_cons, Bool.and_false, Bool.or_true, Bool.false_or, Bool.true_or, Bool.false_and, Bool.true_and, List.foldr_cons, List.foldr_nil, List.set_cons_zero, List.set_cons_succ, Nat.reduceEqDiff, beq_self_eq_true, eq_self, decide_true, decide_false, ↓zP11, zQ11, zzW]
            have fin := fin
            simp only [c, if_false] at fin
            exact fin _ _ _ _ _ _ _
        | flag =>
          simp only [con_S, ixS_0, ixS_wait, ixS_rest, ixS_move, ixS_ahead, ixS_set, ixS_ite1, ixS_ite2, ixS_ite3, wS_wait, wS_rest, wS_move, wS_ahead, wS_set, wS_until, wS_up, wS_down, wS_ite, now_a, nowV, get_flag, get_late, con_T, ixT_0, wT_flag, q1, Int.add_zero, dec_ite, ↓zzU, ↓zzP, zzQ, start0, List.map_cons, List.map_nil, List.length_cons, List.length_nil, List.cons_append, List.nil_append, List.replicate, D.bl.injEq, D.int.injEq, D.str.injEq, D.tup.injEq, D.lst.injEq, Option.some.injEq, Option.isSome_some, Bool.false_eq_true, if_true, if_false, true_and, and_true, false_and, and_false, Bool.not_true, Bool.not_false, Nat.reduceAdd, Nat.reduceSub, Nat.sub_self, Nat.zero_add, List.any_cons, List.any_nil, Bool.or_false, Bool.and_true, List.isEmpty_nil, List.isEmpty_cons, Bool.and_false, Bool.or_true, Bool.false_or, Bool.true_or, Bool.false_and, Bool.true_and, List.foldr_cons, List.foldr_nil, List.set_cons_zero, List.set_cons_succ, Nat.reduceEqDiff, beq_self_eq_true, eq_self, decide_true, decide_false, ↓zP11, zQ11, zzW]
          have fin := fin _ rfl
          simp only [holdsT] at fin
          cases c : r'.flag
          · simp only [c, Bool.false_eq_true, if_false] at fin i2 ⊢
            simp only [i2, con_S, ixS_0, ixS_wait, ixS_rest, ixS_move, ixS_ahead, ixS_set, ixS_ite1, ixS_ite2, ixS_ite3, wS_wait, wS_rest, wS_move, wS_ahead, wS_set, wS_until, wS_up, wS_down, wS_ite, q1, ↓zzU, ↓zzP, zzQ, start0, List.map_cons, List.map_nil, List.length_cons, List.length_nil, List.cons_append, List.nil_append, List.replicate, D.bl.injEq, D.int.injEq, D.str.injEq, D.tup.injEq, D.lst.injEq, Option.some.injEq, Option.isSome_some, Bool.false_eq_true, if_true, if_false, true_and, and_true, false_and, and_false, Bool.not_true, Bool.not_false, Nat.reduceAdd, Nat.reduceSub, Nat.sub_self, Nat.zero_add, List.any_cons, List.any_nil, Bool.or_false, Bool.and_true, List.isEmpty_nil, List.isEmpty_cons, Bool.and_false, Bool.or_true, Bool.false_or, Bool.true_or, Bool.false_and, Bool.true_and, List.foldr_cons, List.foldr_nil, List.set_cons_zero, List.set_cons_succ, Nat.reduceEqDiff, beq_self_eq_true, eq_self, decide_true, decide_false, ↓zP11, zQ11, zzW]
            exact fin _ _ _ _ _ _ _
          · simp only [c, if_true] at fin i1 ⊢
            simp only [i1, con_S, ixS_0, ixS_wait, ixS_rest, ixS_move, ixS_ahead, ixS_set, ixS_ite1, ixS_ite2, ixS_ite3, wS_wait, wS_rest, wS_move, wS_ahead, wS_set, wS_until, wS_up, wS_down, wS_ite, q1, ↓zzU, ↓zzP, zzQ, start0, List.map_cons, List.map_nil, List.length_cons, List.length_nil, List.cons_append, List.nil_append, List.replicate, D.bl.injEq, D.int.injEq, D.str.injEq, D.tup.injEq, D.lst.injEq, Option.some.injEq, Option.isSome_some, Bool.false_eq_true, if_true, if_false, true_and, and_true, false_and, and_false, Bool.not_true, Bool.not_false, Nat.reduceAdd, Nat.reduceSub, Nat.sub_self, Nat.zero_add, List.any_cons, List.any_nil, Bool.or_false, Bool.and_true, List.isEmpty_nil, List.isEmpty_cons, Bool.and_false, Bool.or_true, Bool.false_or, Bool.true_or, Bool.false_and, Bool.true_and, List.foldr_cons, List.foldr_nil, List.set_cons_zero, List.set_cons_succ, Nat.reduceEqDiff, beq_self_eq_true, eq_self, decide_true, decide_false, ↓zP11, zQ11, zzW]
            exact fin _ _ _ _ _ _ _
      | up =>
        simp only [con_S, ixS_0, ixS_wait, ixS_rest, ixS_move, ixS_ahead, ixS_set, ixS_ite1, ixS_ite2, ixS_ite3, wS_wait, wS_rest, wS_move, wS_ahead, wS_set, wS_until, wS_up, wS_down, wS_ite, now_a, nowV, put_flag, now_len, now_f, listedS, ↓zzU, ↓zzP, zzQ, start0, List.map_cons, List.map_nil, List.length_cons, List.length_nil, List.cons_append, List.nil_append, List.replicate, D.bl.injEq, D.int.injEq, D.str.injEq, D.tup.injEq, D.lst.injEq, Option.some.injEq, Option.isSome_some, Bool.false_eq_true, if_true, if_false, true_and, and_true, false_and, and_false, Bool.not_true, Bool.not_false, Nat.reduceAdd, Nat.reduceSub, Nat.sub_self, Nat.zero_add, List.any_cons, List.any_nil, Bool.or_false, Bool.and_true, List.isEmpty_nil, List.isEmpty_cons, Bool.and_false, Bool.or_true, Bool.false_or, Bool.true_or, Bool.false_and, Bool.true_and, List.foldr_cons, List.foldr_nil, List.set_cons_zero, List.set_cons_succ, Nat.reduceEqDiff, beq_self_eq_true, eq_self, decide_true, decide_false, ↓zP11, zQ11, zzW]
        simp only [runS, listedS, List.length_singleton] at u
        exact u _ _ _ _ _ _ _
      | down =>
        simp only [con_S, ixS_0, ixS_wait, ixS_rest, ixS_move, ixS_ahead, ixS_set, ixS_ite1, ixS_ite2, ixS_ite3, wS_wait, wS_rest, wS_move, wS_ahead, wS_set, wS_until, wS_up, wS_down, wS_ite, now_a, nowV, put_flag, now_len, now_f, listedS, ↓zzU, ↓zzP, zzQ, start0, List.map_cons, List.map_nil, List.length_cons, List.length_nil, List.cons_append, List.nil_append, List.replicate, D.bl.injEq, D.int.injEq, D.str.injEq, D.tup.injEq, D.lst.injEq, Option.some.injEq, Option.isSome_some, Bool.false_eq_true, if_true, if_false, true_and, and_true, false_and, and_false, Bool.not_true, Bool.not_false, Nat.reduceAdd, Nat.reduceSub, Nat.sub_self, Nat.zero_add, List.any_cons, List.any_nil, Bool.or_false, Bool.and_true, List.isEmpty_nil, List.isEmpty_cons, Bool.and_false, Bool.or_true, Bool.false_or, Bool.true_or, Bool.false_and, Bool.true_and, List.foldr_cons, List.foldr_nil, List.set_cons_zero, List.set_cons_succ, Nat.reduceEqDiff, beq_self_eq_true, eq_self, decide_true, decide_false, ↓zP11, zQ11, zzW]
        simp only [runS, listedS, List.length_singleton] at u
        exact u _ _ _ _ _ _ _
      | set m =>
        have mu : cMul (-g) m = true := mulR hs' (by decide) (by decide)
        simp only [con_S, ixS_0, ixS_wait, ixS_rest, ixS_move, ixS_ahead, ixS_set, ixS_ite1, ixS_ite2, ixS_ite3, wS_wait, wS_rest, wS_move, wS_ahead, wS_set, wS_until, wS_up, wS_down, wS_ite, now_a, nowV, put_late, now_len, now_t, mu, listedS, ↓zzU, ↓zzP, zzQ, start0, List.map_cons, List.map_nil, List.length_cons, List.length_nil, List.cons_append, List.nil_append, List.replicate, D.bl.injEq, D.int.injEq, D.str.injEq, D.tup.injEq, D.lst.injEq, Option.some.injEq, Option.isSome_some, Bool.false_eq_true, if_true, if_false, true_and, and_true, false_and, and_false, Bool.not_true, Bool.not_false, Nat.reduceAdd, Nat.reduceSub, Nat.sub_self, Nat.zero_add, List.any_cons, List.any_nil, Bool.or_false, Bool.and_true, List.isEmpty_nil, List.isEmpty_cons, Bool.and_false, Bool.or_true, Bool.false_or, Bool.true_or, Bool.false_and, Bool.true_and, List.foldr_cons, List.foldr_nil, List.set_cons_zero, List.set_cons_succ, Nat.reduceEqDiff, beq_self_eq_true, eq_self, decide_true, decide_false, ↓zP11, zQ11, zzW]
        simp only [runS, waitS, markS, listedS, List.length_singleton, Int.add_zero] at u
        exact u _ _ _ _ _ _ _
      | move m =>
        have mu : cMul g m = true := mulR hs' (by decide) (by decide)
        simp only [con_S, ixS_0, ixS_wait, ixS_rest, ixS_move, ixS_ahead, ixS_set, ixS_ite1, ixS_ite2, ixS_ite3, wS_wait, wS_rest, wS_move, wS_ahead, wS_set, wS_until, wS_up, wS_down, wS_ite, now_a, nowV, get_late, put_late, now_len, now_t, mu, listedS, ↓zzU, ↓zzP, zzQ, start0, List.map_cons, List.map_nil, List.length_cons, List.length_nil, List.cons_append, List.nil_append, List.replicate, D.bl.injEq, D.int.injEq, D.str.injEq, D.tup.injEq, D.lst.injEq, Option.some.injEq, Option.isSome_some, Bool.false_eq_true, if_true, if_false, true_and, and_true, false_and, and_false, Bool.not_true, Bool.not_false, Nat.reduceAdd, Nat.reduceSub, Nat.sub_self, Nat.zero_add, List.any_cons, List.any_nil, Bool.or_false, Bool.and_true, List.isEmpty_nil, List.isEmpty_cons, Bool.and_false, Bool.or_true, Bool.false_or, Bool.true_or, Bool.false_and, Bool.true_and, List.foldr_cons, List.foldr_nil, List.set_cons_zero, List.set_cons_succ, Nat.reduceEqDiff, beq_self_eq_true, eq_self, decide_true, decide_false, ↓zP11, zQ11, zzW]
        simp only [runS, waitS, markS, listedS, List.length_singleton, Int.add_zero] at u
        exact u _ _ _ _ _ _ _
      | ahead m =>
        have mu : cMul g m = true := mulR hs' (by decide) (by decide)
        simp only [okS, inR, Bool.and_eq_true, decide_eq_true_eq] at hs'
        have p : 0 < g * m := Int.mul_pos (by omega) (by omega)
        have e1 : r'.late < g * m * ((999999999 : Nat) : Int) := by
          have e2 := hb'.la
          have e3 : g * (M' : Int) ≤ g * ((100000000 : Nat) : Int) := mulM hg (by omega)
          have e4 : g * 1 ≤ g * m := Int.mul_le_mul_of_nonneg_left hs'.1 (by omega)
          omega
        have wh := fun K s0 s1 s5 s6 s7 s8 s9 s10 => law_wh W ha p mu K s0 s1 s5 s6 s7 s8 s9 s10 999999999 { r' with nums := r'.nums ++ [f] } e1
        simp only [con_S, ixS_0, ixS_wait, ixS_rest, ixS_move, ixS_ahead, ixS_set, ixS_ite1, ixS_ite2, ixS_ite3, wS_wait, wS_rest, wS_move, wS_ahead, wS_set, wS_until, wS_up, wS_down, wS_ite, listedS, ↓zzU, ↓zzP, zzQ, start0, List.map_cons, List.map_nil, List.length_cons, List.length_nil, List.cons_append, List.nil_append, List.replicate, D.bl.injEq, D.int.injEq, D.str.injEq, D.tup.injEq, D.lst.injEq, Option.some.injEq, Option.isSome_some, Bool.false_eq_true, if_true, if_false, true_and, and_true, false_and, and_false, Bool.not_true, Bool.not_false, Nat.reduceAdd, Nat.reduceSub, Nat.sub_self, Nat.zero_add, List.any_cons, List.any_nil, Bool.or_false, Bool.and_true, List.isEmpty_nil, List.isEmpty_cons, Bool.and_false, Bool.or_true, Bool.false_or, Bool.true_or, Bool.false_and, Bool.true_and, List.foldr_cons, List.foldr_nil, List.set_cons_zero, List.set_cons_succ, Nat.reduceEqDiff, beq_self_eq_true, eq_self, decide_true, decide_false, ↓zP11, zQ11, zzW]
        rw [show whN = 999999999 + 1 from rfl, wh]
        simp only [runS, waitS, markS, listedS, List.length_singleton, Int.add_zero] at u
        exact u _ _ _ _ _ _ _
      | wait m =>
        have mu : cMul g m = true := mulR hs' (by decide) (by decide)
        simp only [okS, inR, Bool.and_eq_true, decide_eq_true_eq] at hs'
        have p : 0 < g * m := Int.mul_pos (by omega) (by omega)
        simp only [con_S, ixS_0, ixS_wait, ixS_rest, ixS_move, ixS_ahead, ixS_set, ixS_ite1, ixS_ite2, ixS_ite3, wS_wait, wS_rest, wS_move, wS_ahead, wS_set, wS_until, wS_up, wS_down, wS_ite, now_a, nowV, get_late, get_gone, put_late, put_gone, now_len, now_2, mu, listedS, Int.sub_zero, max_wait (show 0 ≤ g * m by omega), ↓zzU, ↓zzP, zzQ, start0, List.map_cons, List.map_nil, List.length_cons, List.length_nil, List.cons_append, List.nil_append, List.replicate, D.bl.injEq, D.int.injEq, D.str.injEq, D.tup.injEq, D.lst.injEq, Option.some.injEq, Option.isSome_some, Bool.false_eq_true, if_true, if_false, true_and, and_true, false_and, and_false, Bool.not_true, Bool.not_false, Nat.reduceAdd, Nat.reduceSub, Nat.sub_self, Nat.zero_add, List.any_cons, List.any_nil, Bool.or_false, Bool.and_true, List.isEmpty_nil, List.isEmpty_cons, Bool.and_false, Bool.or_true, Bool.false_or, Bool.true_or, Bool.false_and, Bool.true_and, List.foldr_cons, List.foldr_nil, List.set_cons_zero, List.set_cons_succ, Nat.reduceEqDiff, beq_self_eq_true, eq_self, decide_true, decide_false, ↓zP11, zQ11, zzW]
        simp only [runS, waitS, markS, listedS, List.length_singleton] at u
        exact u _ _ _ _ _ _ _
      | rest m =>
        have mu : cMul g m = true := mulR hs' (by decide) (by decide)
        simp only [con_S, ixS_0, ixS_wait, ixS_rest, ixS_move, ixS_ahead, ixS_set, ixS_ite1, ixS_ite2, ixS_ite3, wS_wait, wS_rest, wS_move, wS_ahead, wS_set, wS_until, wS_up, wS_down, wS_ite, now_a, nowV, get_late, get_gone, put_late, put_gone, now_len, now_2, mu, listedS, gMax, ↓zzU, ↓zzP, zzQ, start0, List.map_cons, List.map_nil, List.length_cons, List.length_nil, List.cons_append, List.nil_append, List.replicate, D.bl.injEq, D.int.injEq, D.str.injEq, D.tup.injEq, D.lst.injEq, Option.some.injEq, Option.isSome_some, Bool.false_eq_true, if_true, if_false, true_and, and_true, false_and, and_false, Bool.not_true, Bool.not_false, Nat.reduceAdd, Nat.reduceSub, Nat.sub_self, Nat.zero_add, List.any_cons, List.any_nil, Bool.or_false, Bool.and_true, List.isEmpty_nil, List.isEmpty_cons, Bool.and_false, Bool.or_true, Bool.false_or, Bool.true_or, Bool.false_and, Bool.true_and, List.foldr_cons, List.foldr_nil, List.set_cons_zero, List.set_cons_succ, Nat.reduceEqDiff, beq_self_eq_true, eq_self, decide_true, decide_false, ↓zP11, zQ11, zzW]
        simp only [runS, waitS, markS, listedS, List.length_singleton] at u
        exact u _ _ _ _ _ _ _
      | «until» =>
        simp only [con_S, ixS_0, ixS_wait, ixS_rest, ixS_move, ixS_ahead, ixS_set, ixS_ite1, ixS_ite2, ixS_ite3, wS_wait, wS_rest, wS_move, wS_ahead, wS_set, wS_until, wS_up, wS_down, wS_ite, now_a, nowV, get_late, get_gone, put_late, put_gone, now_len, now_2, listedS, gMax, ↓zzU, ↓zzP, zzQ, start0, List.map_cons, List.map_nil, List.length_cons, List.length_nil, List.cons_append, List.nil_append, List.replicate, D.bl.injEq, D.int.injEq, D.str.injEq, D.tup.injEq, D.lst.injEq, Option.some.injEq, Option.isSome_some, Bool.false_eq_true, if_true, if_false, true_and, and_true, false_and, and_false, Bool.not_true, Bool.not_false, Nat.reduceAdd, Nat.reduceSub, Nat.sub_self, Nat.zero_add, List.any_cons, List.any_nil, Bool.or_false, Bool.and_true, List.isEmpty_nil, List.isEmpty_cons, Bool.and_false, Bool.or_true, Bool.false_or, Bool.true_or, Bool.false_and, Bool.true_and, List.foldr_cons, List.foldr_nil, List.set_cons_zero, List.set_cons_succ, Nat.reduceEqDiff, beq_self_eq_true, eq_self, decide_true, decide_false, ↓zP11, zQ11, zzW]
        simp only [runS, waitS, markS, listedS, List.length_singleton] at u
        exact u _ _ _ _ _ _ _
end Kt
set_option Elab.async false
set_option linter.all false
set_option maxRecDepth 8000
set_option maxHeartbeats 1000000
/-! KtD2: the laws' rounds as a function -/
namespace Kt
open PySem PySem.Spec L2 Pl
structure RdA where
  L : Loop
  l : Int
  f : Bool
  t : Int
  g : Int
def encRd (a : RdA) : List D := [encL a.L, .int a.l, .bl a.f, .int a.t, .int a.g]
def okRd (a : RdA) : Prop := okL a.L = true ∧ 1 ≤ a.g ∧ 0 ≤ a.t ∧ a.t ≤ a.g * 8 ∧ ∃ M : Nat, M ≤ 10000000 ∧ a.l ≤ a.g * M
def rdR (a : RdA) : Rn := runB a.L.body 0 ⟨a.t, a.l + a.t, a.f, []⟩ a.g
def resRd (a : RdA) (W : Wt) : Out := .rt (.tup [.int (rdR a).gone, .int (rdR a).late, .bl (rdR a).flag, .lst ((rdR a).nums.map D.int)]) W
def φ__law_round : PFn := fun ds W Q _ => ∃ a, ds = encRd a ∧ okRd a ∧ Q (.tup [.int (rdR a).gone, .int (rdR a).late, .bl (rdR a).flag, .lst ((rdR a).nums.map D.int)]) W
noncomputable def S__law_round : RFn := SC encRd okRd resRd
theorem S__law_round_wk : ∀ ds W Q E, φR S__law_round ds W Q E → φ__law_round ds W Q E := SC_wk fun a W Q E h q => ⟨a, rfl, h, q⟩
theorem encRd_inj {a b : RdA} (h : encRd a = encRd b) : a = b := by
  cases a; cases b
  simp only [encRd, List.cons.injEq, D.int.injEq, D.bl.injEq, and_true] at h
  obtain ⟨h1, rfl, rfl, rfl, rfl⟩ := h
  rw [encL_inj h1]
theorem S__law_round_ok (a : RdA) (W : Wt) (h : okRd a) : S__law_round (encRd a) W = resRd a W := SC_eq (fun b e _ => by rw [encRd_inj e]) h
theorem now_merge (x y z u : D) : mergeD ([], []) [(.str "gone", x), (.str "late", y), (.str "flag", z), (.str "done", u)] = (nowK, [x, y, z, u]) := by
  simp only [mergeD, List.foldl_cons, List.foldl_nil, dput, List.any_cons, List.any_nil, eqD_str, Bool.or_false, Bool.false_eq_true, if_false, List.nil_append, List.cons_append, nq1, nq2, nq3, nq7, nq5, nq6]
  rfl
/-- a round as the laws do it -/
theorem law_round_do (W : Wt) {a l : Addr} (ha : l ≠ a) (x : RdA) (h : okRd x) : F__law_do 9 [encB x.L.body, .int 0, .adr a, .int x.g] (updW (updW W l (.lst [])) a (.dct nowK [.int x.t, .int (x.l + x.t), .bl x.f, .adr l])) = .rt .non (now W a l (rdR x)) := by
  obtain ⟨h1, h2, h3, h4, M, h5, h6⟩ := h
  obtain ⟨_, hB, h12⟩ := okL_iff.mp h1
  have e : x.g * ((M + 8 : Nat) : Int) = x.g * (M : Int) + x.g * 8 := by rw [← Int.mul_add]; rfl
  exact F__law_do_ok W ha x.g h2 9 3 x.L.body 0 ⟨x.t, x.l + x.t, x.f, []⟩ (M + 8) (by omega) (by omega) hB ⟨h3, by show x.l + x.t ≤ _; omega⟩ (by omega) (by simp only [List.length_nil]; omega)
end Kt
set_option Elab.async false
set_option linter.all false
set_option maxRecDepth 100000
set_option maxHeartbeats 4000000
namespace Kt
open PySem PySem.Spec L2 Pl
def r__law_moments (F__law_round : RFn) : RS := (rSeq (rAsg (rTup (rCons (rIxK (rkVar 1) (rC (.int 0))) (rCons (rC (.int 0)) (rCons (rOp fMul (rUn fNeg (rIxK (rkVar 1) (rC (.int 0)))) (rIxK (rkVar 0) (rC (.int 2)))) (rCons (rC (.bl false)) rNil))))) (rgTup 4 (rgCons (rgName 2) (rgCons (rgName 3) (rgCons (rgName 4) (rgCons (rgName 5) rgNil))))))
      (rSeq (rParX [6, 7, 8] (rxOwn (roLst (rCons (rC (.int 0)) rNil)) (rxOwn (roLst (rCons (rVar 4) rNil)) (rxOwn roDct rxNil))))
      (rSeq (rFor (rIter (rIxK (rkVar 1) (rC (.int 1)))) (rgName 9)
      (rSeq (rAsg (rCall 5 F__law_round (rCons (rVar 0) (rCons (rVar 4) (rCons (rVar 5) (rCons (rVar 9) (rCons (rVar 2) rNil)))))) (rgTup 4 (rgCons (rgName 10) (rgCons (rgName 4) (rgCons (rgName 5) (rgCons (rgName 11) rgNil))))))
      (rSeq (rSet 3 (rOp fAdd (rVar 3) (rVar 10)))
      (rSeq (rAppend (rkVar 6) (rVar 3))
      (rSeq (rAppend (rkVar 7) (rVar 4))
      (rFor (rIter (rVar 11)) (rgName 12)
      (rStore (rC (.bl true)) (rkVar 8) (rVar 12))))))))
      (rRet (rTup (rCons (rVar 6) (rCons (rVar 7) (rCons (rCallB fSorted (rCons (rCallB fListA (rCons (rVar 8) rNil)) rNil)) rNil))))))))
noncomputable def F__law_moments : RFn := runD 13 (r__law_moments (S__law_round))
end Kt
set_option Elab.async false
set_option linter.all false
/-! KtC4: parts of a loop -/
namespace Kt
open PySem PySem.Spec L2 Pl
theorem con_L (S : Sta) (L : Loop) : con S (.val (encL L)) = .val (encL L) := rfl
theorem ixL_0 (L : Loop) : fixC (.val (encL L)) (.int 0) = some (.int L.least) := rfl
theorem ixL_1 (L : Loop) : fixC (.val (encL L)) (.int 1) = some (.int L.most) := rfl
theorem ixL_2 (L : Loop) : fixC (.val (encL L)) (.int 2) = some (.int L.first) := rfl
theorem ixL_3 (L : Loop) : fixC (.val (encL L)) (.int 3) = some (encB L.body) := rfl
theorem eqD_good {d : D} (h : d.good = true) : eqD d d = true := eqD_refl _ (good_plain h)
end Kt
set_option Elab.async false
set_option linter.all false
set_option maxRecDepth 8000
set_option maxHeartbeats 1000000
/-! KtD3: the laws' own moments -/
namespace Kt
open PySem PySem.Spec L2 Pl
theorem F__law_moments_ok {L : Loop} {g : Int} {ts : List Int} (W : Wt) (h : okL L = true) (hrow : rowL L g ts) (h40 : ts.length ≤ 10000) :
    F__law_moments [encL L, encRow g ts] W = .rt (.tup [.lst ((allX L g ts).map fun s => .int s.m), .lst ((allX L g ts).map fun s => .int s.l), .lst ((doneL L g ts).map D.int)]) W := by
  obtain ⟨hg, hg2, hts, ht⟩ := rowL_ok h hrow
  obtain ⟨⟨_, _, _, hf1, hf2⟩, _⟩ := okL_iff.mp h
  have mu : cMul (-g) L.first = true := mulR (a := 0) (b := 8) (by simp only [inR, Bool.and_eq_true, decide_eq_true_eq]; omega) (by decide) (by decide)
  have hS := S__law_round_ok
  unfold F__law_moments r__law_moments encRow
  generalize S__law_round = F at hS ⊢
  simp only [con_L, ixL_2, mu, ↓zzU, ↓zzP, zzQ, start0, List.map_cons, List.map_nil, List.length_cons, List.length_nil, List.cons_append, List.nil_append, List.replicate, D.bl.injEq, D.int.injEq, D.str.injEq, D.tup.injEq, D.lst.injEq, Option.some.injEq, Option.isSome_some, Bool.false_eq_true, if_true, if_false, true_and, and_true, false_and, and_false, Bool.not_true, Bool.not_false, Nat.reduceAdd, Nat.reduceSub, Nat.sub_self, Nat.zero_add, List.any_cons, List.any_nil, Bool.or_false, Bool.and_true, List.isEmpty_nil, List.isEmpty_cons, Bool.and_false, Bool.or_true, Bool.false_or, Bool.true_or, Bool.false_and, Bool.true_and, List.foldr_cons, List.foldr_nil, List.set_cons_zero, List.set_cons_succ, Nat.reduceEqDiff, beq_self_eq_true, eq_self, decide_true, decide_false, ↓zP13, zQ13, zzW]
  refine forR_inv D.int (fun x S => ∃ s A B ks s9 s10 s11 s12 M, S = ⟨[.val (encL L), .val (.tup [.int g, .tup (ts.map D.int)]), .val (.int g), .val (.int s.m), .val (.int s.l), .val (.bl s.f), .own (.lst A), .own (.lst B), .own (.dct (ks.map D.int) (List.replicate ks.length (.bl true))), s9, s10, s11, s12], W⟩ ∧
    (∀ t ∈ x, 0 ≤ t ∧ t ≤ g * 8) ∧ s.l ≤ g * (M : Nat) ∧ M + 104 * x.length ≤ 2000000 ∧ A.length + x.length ≤ 10001 ∧ B.length + x.length ≤ 10001 ∧ ks.length + 12 * x.length ≤ 120000 ∧
    A ++ (stsL L g s x).map (fun s => .int s.m) = (allX L g ts).map (fun s => .int s.m) ∧ B ++ (stsL L g s x).map (fun s => .int s.l) = (allX L g ts).map (fun s => .int s.l) ∧ keysL ks (numsL L g s x) = keysL [] (numsL L g (begX L g) ts)) ?_ ?_ ts _
    ⟨begX L g, [.int 0], [.int (-g * L.first)], [], _, _, _, _, 0, rfl, ht, ?_, by omega, by simp; omega, by simp; omega, by simp; omega, rfl, rfl, rfl⟩
  · rintro S ⟨s, A, B, ks, s9, s10, s11, s12, M, rfl, _, _, _, _, _, _, e1, e2, e3⟩
    simp only [stsL, List.map_nil, List.append_nil, numsL] at e1 e2 e3
    have so : fSorted [.lst (ks.map D.int)] = some (.lst ((doneL L g ts).map D.int)) := by
      simp only [fSorted, ints_map, Option.map_some, doneL, ← e3]
      rfl
    simp only [so, ↓zzU, ↓zzP, zzQ, start0, List.map_cons, List.map_nil, List.length_cons, List.length_nil, List.cons_append, List.nil_append, List.replicate, D.bl.injEq, D.int.injEq, D.str.injEq, D.tup.injEq, D.lst.injEq, Option.some.injEq, Option.isSome_some, Bool.false_eq_true, if_true, if_false, true_and, and_true, false_and, and_false, Bool.not_true, Bool.not_false, Nat.reduceAdd, Nat.reduceSub, Nat.sub_self, Nat.zero_add, List.any_cons, List.any_nil, Bool.or_false, Bool.and_true, List.isEmpty_nil, List.isEmpty_cons, Bool.and_false, Bool.or_true, Bool.false_or, Bool.true_or, Bool.false_and, Bool.true_and, List.foldr_cons, List.foldr_nil, List.set_cons_zero, List.set_cons_succ, Nat.reduceEqDiff, beq_self_eq_true, eq_self, decide_true, decide_false, ↓zP13, zQ13, zzW]
    rw [← e1, ← e2]
  · rintro t x S ⟨s, A, B, ks, s9, s10, s11, s12, M, rfl, hx, hl, hM, hA, hB, hk', e1, e2, e3⟩ k hk
    obtain ⟨t1, t2⟩ := hx t (List.mem_cons_self ..)
    obtain ⟨n1, n2, n3⟩ := nxt_bnd h hg t1 t2 hl
    simp only [List.length_cons] at hM hA hB hk'
    have r1 := hS ⟨L, s.l, s.f, t, g⟩ W ⟨h, hg, t1, t2, M, by omega, hl⟩
    have r2 : F [encL L, .int s.l, .bl s.f, .int t, .int g] W = .rt (.tup [.int (rnd L s t g).gone, .int (rnd L s t g).late, .bl (rnd L s t g).flag, .lst ((rnd L s t g).nums.map D.int)]) W := r1
    have zA : A.length < sizeLine := by show _ < 2 ^ 24; omega
    have zB : B.length < sizeLine := by show _ < 2 ^ 24; omega
    simp only [r2, zA, zB, ↓zzU, ↓zzP, zzQ, start0, List.map_cons, List.map_nil, List.length_cons, List.length_nil, List.cons_append, List.nil_append, List.replicate, D.bl.injEq, D.int.injEq, D.str.injEq, D.tup.injEq, D.lst.injEq, Option.some.injEq, Option.isSome_some, Bool.false_eq_true, if_true, if_false, true_and, and_true, false_and, and_false, Bool.not_true, Bool.not_false, Nat.reduceAdd, Nat.reduceSub, Nat.sub_self, Nat.zero_add, List.any_cons, List.any_nil, Bool.or_false, Bool.and_true, List.isEmpty_nil, List.isEmpty_cons, Bool.and_false, Bool.or_true, Bool.false_or, Bool.true_or, Bool.false_and, Bool.true_and, List.foldr_cons, List.foldr_nil, List.set_cons_zero, List.set_cons_succ, Nat.reduceEqDiff, beq_self_eq_true, eq_self, decide_true, decide_false, ↓zP13, zQ13, zzW]
    refine forR_inv D.int (fun y S => ∃ ks' s12, S = ⟨[.val (encL L), .val (.tup [.int g, .tup (ts.map D.int)]), .val (.int g), .val (.int (s.m + (rnd L s t g).gone)), .val (.int (rnd L s t g).late), .val (.bl (rnd L s t g).flag), .own (.lst (A ++ [.int (s.m + (rnd L s t g).gone)])), .own (.lst (B ++ [.int (rnd L s t g).late])), .own (.dct (ks'.map D.int) (List.replicate ks'.length (.bl true))), .val (.int t), .val (.int (rnd L s t g).gone), .val (.lst ((rnd L s t g).nums.map D.int)), s12], W⟩ ∧
      ks'.length + y.length ≤ ks.length + 12 ∧ keysL ks' y = keysL ks (rnd L s t g).nums) ?_ ?_ _ _ ⟨ks, _, rfl, by omega, rfl⟩
    · rintro S ⟨ks', s12, rfl, h1, h2⟩
      refine hk _ ⟨nxt L s t g, _, _, ks', _, _, _, _, M + 104, rfl, fun z hz => hx z (List.mem_cons_of_mem _ hz), n1, by omega, by simp; omega, by simp; omega, by simp at h1; omega, by rw [← e1]; simp [stsL, nxt], by rw [← e2]; simp [stsL, nxt], ?_⟩
      rw [← e3]
      simp only [numsL, keysL, List.foldl_append, List.foldl_nil] at h2 ⊢
      rw [← h2]
    · rintro y z S ⟨ks', s12, rfl, h1, h2⟩ k' hk''
      simp only [List.length_cons] at h1
      have hsz : (ks'.map D.int).length < sizeLine := by rw [List.length_map]; show _ < 2 ^ 24; omega
      simp only [hsz, dput_key, ↓zzU, ↓zzP, zzQ, start0, List.map_cons, List.map_nil, List.length_cons, List.length_nil, List.cons_append, List.nil_append, List.replicate, D.bl.injEq, D.int.injEq, D.str.injEq, D.tup.injEq, D.lst.injEq, Option.some.injEq, Option.isSome_some, Bool.false_eq_true, if_true, if_false, true_and, and_true, false_and, and_false, Bool.not_true, Bool.not_false, Nat.reduceAdd, Nat.reduceSub, Nat.sub_self, Nat.zero_add, List.any_cons, List.any_nil, Bool.or_false, Bool.and_true, List.isEmpty_nil, List.isEmpty_cons, Bool.and_false, Bool.or_true, Bool.false_or, Bool.true_or, Bool.false_and, Bool.true_and, List.foldr_cons, List.foldr_nil, List.set_cons_zero, List.set_cons_succ, Nat.reduceEqDiff, beq_self_eq_true, eq_self, decide_true, decide_false, ↓zP13, zQ13, zzW]
      have := addKey_len ks' y
      exact hk'' _ ⟨addKey ks' y, _, rfl, by omega, h2⟩
  · show -g * L.first ≤ g * ((0 : Nat) : Int)
    have : 0 ≤ g * L.first := Int.mul_nonneg (by omega) hf1
    rw [Int.neg_mul]; simp; exact this
/-! what the checks of the laws want -/
theorem good_intsL {α : Type} (f : α → Int) (xs : List α) : D.good (.lst (xs.map fun s => .int (f s))) = true := by
  refine gd_good (n := 1) ?_ (by decide)
  rw [gd_lst, List.all_map, List.all_eq_true]
  exact fun x _ => gd_int _ _
theorem starts_is {L : Loop} {g : Int} {ts : List Int} {r : List Int} (C C2 : Addr) (W : Wt) (h : okL L = true) (hr : rowL L g ts) (e : (allX L g ts).map Sx.m = r) : F_starts C C2 [encL L, encRow g ts] W = .rt (.lst (r.map D.int)) W := by
  rw [F_starts_ok C C2 W h hr, ← e, List.map_map]; rfl
theorem lates_is {L : Loop} {g : Int} {ts : List Int} {r : List Int} (C C2 : Addr) (W : Wt) (h : okL L = true) (hr : rowL L g ts) (e : (allX L g ts).map Sx.l = r) : F_latenesses C C2 [encL L, encRow g ts] W = .rt (.lst (r.map D.int)) W := by
  rw [F_latenesses_ok C C2 W h hr, ← e, List.map_map]; rfl
theorem done_is {L : Loop} {g : Int} {ts : List Int} {r : List Int} (C C2 : Addr) (W : Wt) (h : okL L = true) (hr : rowL L g ts) (e : doneL L g ts = r) : F_done C C2 [encL L, encRow g ts] W = .rt (.lst (r.map D.int)) W := by
  rw [F_done_ok C C2 W h hr, e]
end Kt
set_option Elab.async false
set_option linter.all false
set_option maxRecDepth 100000
set_option maxHeartbeats 4000000
namespace Kp
open PySem PySem.Spec L2 Pl Kt
open PyProof.Rows (envOfC boot_int boot_bool boot_str boot_tuple boot_list boot_dict)
local macro_rules | `(tactic| walk_at "pls") => `(tactic| try simp only [↓pC, ↓pOp, ↓pUn, ↓pSl, ↓pPart, ↓pNil, ↓pCons, ↓pTup, ↓pLst, ↓pCallB, ↓pTest, ↓pNot, ↓pAnd, ↓pOr, ↓pAndV, ↓pOrV, ↓pNotV, ↓pIf, ↓pNext, ↓pSeq, ↓pBreak, ↓pCont, ↓pDrop, ↓pRet, ↓pRetN, ↓pIfS, ↓pgNil, ↓pgCons, ↓pgTup, ↓pAsg, ↓pRaise, ↓pCall, ↓pIter, ↓pFor, ↓pLc, ↓pYes, ↓pkOf, ↓pIxK, ↓pTabG, ↓pLenK, ↓pChain, ↓pStore, ↓pAppend, ↓pPop, ↓poLst, ↓poDct, ↓pNewW, ↓pRng1, ↓pRng2, ↓pTry, ↓pTryAs, ↓oEq, ↓oNe, ↓oLen, ↓oSum, ↓oAll, ↓oAny, ↓oIsi, start0, List.map_cons, List.map_nil, List.length_cons, List.length_nil, List.cons_append, List.nil_append, List.getElem?_cons_zero, List.getElem?_cons_succ, List.set_cons_zero, List.set_cons_succ, List.replicate, D.bl.injEq, D.int.injEq, D.str.injEq, D.tup.injEq, D.lst.injEq, exists_eq_left', exists_eq_left, Option.some.injEq, Bool.false_eq_true, if_true, if_false, true_and, and_true, false_and, and_false, isi_int, isi_bool, isi_str, isi_tuple, isi_list, isiT_int, isiT_bool, isiT_str, isiT_tuple, isiT_list, Bool.not_true, Bool.not_false, dat_non, dat_bl, dat_int, dat_str, dat_tup, dat_lst, isInt_non, isInt_bl, isInt_int, isInt_str, isInt_tup, isInt_lst, isBool_non, isBool_bl, isBool_int, isBool_str, isBool_tup, isBool_lst, isStr_non, isStr_bl, isStr_int, isStr_str, isStr_tup, isStr_lst, isTup_non, isTup_bl, isTup_int, isTup_str, isTup_tup, isTup_lst, isLst_non, isLst_bl, isLst_int, isLst_str, isLst_tup, isLst_lst, Nat.reduceAdd, Nat.zero_add, sz_0, sz_1, sz_2, sz_3, sz_4, sz_5, sz_6, sz_7, sz_8, sz_9, sz_10, sz_11, sz_12, List.any_cons, List.any_nil, eqD_tup, eqD_str, eqD_int, eqDs_cons, eqDs_nil, eqDs_cn, eqDs_nc, Bool.or_false, Bool.and_true, at0, at1, at2, at3, at4, good_int, good_bl, good_nil, good_nilL, good_non, eqDs_nil_r, eqDs_nil_l, List.isEmpty_nil, List.isEmpty_cons, Bool.and_false, Bool.or_true, Bool.false_or, Bool.true_or, Bool.false_and, Bool.true_and, encB, wipS_mk, List.foldr_cons, List.foldr_nil, con_updW, ↓ixC_ownD, ↓oIx_tup, ↓oIx_lst, ↓oIx_str, ↓lenC_ownL, ↓lenC_ownD, ↓setC_ownD, putC_adr, Own_lst_inj, Con_own_inj, updW_upd, Nat.reduceSub, Nat.sub_self, ↓itD_lst, ↓itD_tup, ↓oInt_i, ↓oCmp_i, ↓oAdd_i, ↓oAdd_s, ↓oAdd_t, ↓oAdd_l, ↓oNeg_i, ↓o1I_i, ↓o2I_i, ↓oSl_t, ↓oSl_l, ↓oList_t, ↓oList_l, ↓oTuple_t, ↓oTuple_l, ↓oIn_t, ↓oIn_l, ↓oIsN_n, ↓ixC_ownLi, ↓setC_ownLi, ixN20, ixN21, ex_int1, ex_int2, ↓pSet_eq, ↓ixK_tup, ↓ixK_lst, ↓ixK_str, ↓ixK_dct, ↓lenK_tup, ↓lenK_lst, ↓lenK_str, ↓pSetO_eq, ↓pPar_eq, ↓kPar_mk, ↓pGet2, ↓pFrzO_eq, ↓kFrz_lst, ↓kFrz_dct, ↓pPairs_nil, ↓pPairs_cons, ↓poDisp, ↓getC_val, isDc_val, ↓poCat, ↓catD_l, ↓pVarV0, ↓pVarV1, ↓pVarV2, ↓pVarV3, ↓pVarV4, ↓pVarV5, ↓pVarV6, ↓pVarV7, ↓pVarV8, ↓pVarV9, ↓pVarV10, ↓pVarV11, ↓pVarV12, ↓pVarV13, ↓pVarV14, ↓pVarV15, ↓pVarV16, ↓pVarV17, ↓pVarV18, ↓pVarV19, ↓pVarV20, ↓pVarV21, ↓pVarV22, ↓pVarV23, ↓pVarL0, ↓pVarL1, ↓pVarL2, ↓pVarL3, ↓pVarL4, ↓pVarL5, ↓pVarL6, ↓pVarL7, ↓pVarL8, ↓pVarL9, ↓pVarL10, ↓pVarL11, ↓pVarL12, ↓pVarL13, ↓pVarL14, ↓pVarL15, ↓pVarL16, ↓pVarL17, ↓pVarL18, ↓pVarL19, ↓pVarL20, ↓pVarL21, ↓pVarL22, ↓pVarL23, ↓pVarD0, ↓pVarD1, ↓pVarD2, ↓pVarD3, ↓pVarD4, ↓pVarD5, ↓pVarD6, ↓pVarD7, ↓pVarD8, ↓pVarD9, ↓pVarD10, ↓pVarD11, ↓pVarD12, ↓pVarD13, ↓pVarD14, ↓pVarD15, ↓pVarD16, ↓pVarD17, ↓pVarD18, ↓pVarD19, ↓pVarD20, ↓pVarD21, ↓pVarD22, ↓pVarD23, ↓pkVarV0, ↓pkVarV1, ↓pkVarV2, ↓pkVarV3, ↓pkVarV4, ↓pkVarV5, ↓pkVarV6, ↓pkVarV7, ↓pkVarV8, ↓pkVarV9, ↓pkVarV10, ↓pkVarV11, ↓pkVarV12, ↓pkVarV13, ↓pkVarV14, ↓pkVarV15, ↓pkVarV16, ↓pkVarV17, ↓pkVarV18, ↓pkVarV19, ↓pkVarV20, ↓pkVarV21, ↓pkVarV22, ↓pkVarV23, ↓pkVarO0, ↓pkVarO1, ↓pkVarO2, ↓pkVarO3, ↓pkVarO4, ↓pkVarO5, ↓pkVarO6, ↓pkVarO7, ↓pkVarO8, ↓pkVarO9, ↓pkVarO10, ↓pkVarO11, ↓pkVarO12, ↓pkVarO13, ↓pkVarO14, ↓pkVarO15, ↓pkVarO16, ↓pkVarO17, ↓pkVarO18, ↓pkVarO19, ↓pkVarO20, ↓pkVarO21, ↓pkVarO22, ↓pkVarO23, ↓kSetN0, ↓kSetN1, ↓kSetN2, ↓kSetN3, ↓kSetN4, ↓kSetN5, ↓kSetN6, ↓kSetN7, ↓kSetN8, ↓kSetN9, ↓kSetN10, ↓kSetN11, ↓kSetN12, ↓kSetN13, ↓kSetN14, ↓kSetN15, ↓kSetN16, ↓kSetN17, ↓kSetN18, ↓kSetN19, ↓kSetN20, ↓kSetN21, ↓kSetN22, ↓kSetN23, ↓kSetO_N0, ↓kSetO_N1, ↓kSetO_N2, ↓kSetO_N3, ↓kSetO_N4, ↓kSetO_N5, ↓kSetO_N6, ↓kSetO_N7, ↓kSetO_N8, ↓kSetO_N9, ↓kSetO_N10, ↓kSetO_N11, ↓kSetO_N12, ↓kSetO_N13, ↓kSetO_N14, ↓kSetO_N15, ↓kSetO_N16, ↓kSetO_N17, ↓kSetO_N18, ↓kSetO_N19, ↓kSetO_N20, ↓kSetO_N21, ↓kSetO_N22, ↓kSetO_N23, ↓pgNameN0, ↓pgNameN1, ↓pgNameN2, ↓pgNameN3, ↓pgNameN4, ↓pgNameN5, ↓pgNameN6, ↓pgNameN7, ↓pgNameN8, ↓pgNameN9, ↓pgNameN10, ↓pgNameN11, ↓pgNameN12, ↓pgNameN13, ↓pgNameN14, ↓pgNameN15, ↓pgNameN16, ↓pgNameN17, ↓pgNameN18, ↓pgNameN19, ↓pgNameN20, ↓pgNameN21, ↓pgNameN22, ↓pgNameN23, ↓ixS0, ↓ixS1, ↓ixS2, ↓ixS3, ↓ixS4, ↓ixS5, ↓ixS6, ↓ixS7, ↓ixS8, ↓ixS9, ↓ixS10, ↓ixS11, ↓ixS12, ↓ixS13, ↓ixS14, ↓ixS15, ↓ixS16, ↓ixS17, ↓ixS18, ↓ixS19, ↓ixS20, ↓ixS21, ↓ixS22, ↓ixS23, ↓lenS0, ↓lenS1, ↓lenS2, ↓lenS3, ↓lenS4, ↓lenS5, ↓lenS6, ↓lenS7, ↓lenS8, ↓lenS9, ↓lenS10, ↓lenS11, ↓lenS12, ↓lenS13, ↓lenS14, ↓lenS15, ↓lenS16, ↓lenS17, ↓lenS18, ↓lenS19, ↓lenS20, ↓lenS21, ↓lenS22, ↓lenS23, ↓setS0, ↓setS1, ↓setS2, ↓setS3, ↓setS4, ↓setS5, ↓setS6, ↓setS7, ↓setS8, ↓setS9, ↓setS10, ↓setS11, ↓setS12, ↓setS13, ↓setS14, ↓setS15, ↓setS16, ↓setS17, ↓setS18, ↓setS19, ↓setS20, ↓setS21, ↓setS22, ↓setS23, ↓conS0, ↓conS1, ↓conS2, ↓conS3, ↓conS4, ↓conS5, ↓conS6, ↓conS7, ↓conS8, ↓conS9, ↓conS10, ↓conS11, ↓conS12, ↓conS13, ↓conS14, ↓conS15, ↓conS16, ↓conS17, ↓conS18, ↓conS19, ↓conS20, ↓conS21, ↓conS22, ↓conS23, ↓putS0, ↓putS1, ↓putS2, ↓putS3, ↓putS4, ↓putS5, ↓putS6, ↓putS7, ↓putS8, ↓putS9, ↓putS10, ↓putS11, ↓putS12, ↓putS13, ↓putS14, ↓putS15, ↓putS16, ↓putS17, ↓putS18, ↓putS19, ↓putS20, ↓putS21, ↓putS22, ↓putS23])
def topS (i : Nat) : Stmt := PySem.Challenge.pw_keptpace_k02_rounds_done.main.body.getD i (.Pass ⟨0, 0, 0, 0⟩)
def φ__law_row : PFn := fun ds W Q _ => ∃ a L m, ds = [.adr a, encL L, .int m] ∧ okL L = true ∧ 0 ≤ m ∧ m ≤ 100 ∧ Src W a ∧
  ∀ (g : Int) (ts : List Int) W', 1 ≤ g → g ≤ 10 ^ 9 → (ts.length : Int) ≤ m → (∀ t ∈ ts, g * L.least ≤ t ∧ t ≤ g * L.most) → Dr W a W' → Q (.tup [.int g, .tup (ts.map D.int)]) W'
section
variable {P : Program} {w : World} {K : PySem.W.Frag} {mg : Str → Option Value} {base : Heap}
abbrev s_is_number : Stmt := topS 9
abbrev N_is_number : List Str := ["value", "least", "most"]
theorem sc_is_number : FnScope N_is_number ["value", "least", "most"] (defScope s_is_number) := ⟨rfl, rfl, rfl, by decide +kernel, rfl, by decide +kernel, by decide +kernel⟩
theorem ok_is_number  {k : Nat}  (T : TopD K mg "is_number" ["value", "least", "most"] s_is_number) (m_isinstance : mg "isinstance" = none) (m_bool : mg "bool" = none) (m_int : mg "int" = none)  :
    CallF P w K mg base "is_number" 3 (k + 1) (φ_is_number) := by
  refine call_of (N := N_is_number) (k := k) T sc_is_number fun f cdv A outer s H E hr => ⟨_, (pmss_one (pms_ret (pm_and (pm_callB cd_isi (by rfl) m_isinstance (by decide +kernel) (pma_cons (pm_var (pv 0)) (pma_cons (pm_ty (by rfl) m_int boot_int) pma_nil))) (pm_and (pm_not (pm_callB cd_isi (by rfl) m_isinstance (by decide +kernel) (pma_cons (pm_var (pv 0)) (pma_cons (pm_ty (by rfl) m_bool boot_bool) pma_nil)))) (pm_one (pm_chain od_le od_le (pm_var (pv 1)) (pm_var (pv 0)) (pm_var (pv 2)))))))), ?_⟩
  rintro ds Wo Q E' - ⟨v, a, b, rfl, hv, q⟩
  cases v <;> (try simp only [D.dat, Bool.false_eq_true] at hv)
  all_goals (walk_at "pls")
  all_goals first | exact q | skip
  rename_i i
  unfold isNum at q
  by_cases h : a ≤ i
  · simpa [h] using q
  · simpa [h] using q
abbrev s_is_counted : Stmt := topS 10
abbrev N_is_counted : List Str := ["value", "words"]
theorem sc_is_counted : FnScope N_is_counted ["value", "words"] (defScope s_is_counted) := ⟨rfl, rfl, rfl, by decide +kernel, rfl, by decide +kernel, by decide +kernel⟩
theorem ok_is_counted  {k : Nat}  (T : TopD K mg "is_counted" ["value", "words"] s_is_counted) (c_is_number : CallF P w K mg base "is_number" 3 k (φ_is_number)) (g_MOST_TIME : GI mg "MOST_TIME" 8) (g_LEAST_NUMBERS : GT K w mg "LEAST_NUMBERS" tab_LEAST_NUMBERS) (m_len : mg "len" = none)  :
    CallF P w K mg base "is_counted" 2 (k + 1) (φ_is_counted) := by
  refine call_of (N := N_is_counted) (k := k) T sc_is_counted fun f cdv A outer s H E hr => ⟨_, (pmss_cons (pms_if (pmt_w (pmw_or (pmt_cmp (od_ne (Room.hu64 hr)) (pm_lenK (by rfl) m_len (pk_var (pv 0))) pm_int (nomark _)) (pmw_or1 (pmt_cmp (od_notIn (Room.hu65 hr)) (pm_ixK (Room.hu1 hr) (pk_var (pv 0)) pm_int (fun _ _ => rfl)) (pm_var (pv 1)) (by rfl))))) (pmss_one (pms_ret pm_bl)) pmss_nil)
      (pmss_one (pms_ret (pm_callF c_is_number hr (by rfl) (pma_cons (pm_ixK (Room.hu1 hr) (pk_var (pv 0)) pm_int (fun _ _ => rfl)) (pma_cons (pm_tabG g_LEAST_NUMBERS (by rfl) (pm_ixK (Room.hu1 hr) (pk_var (pv 0)) pm_int (fun _ _ => rfl)) (fun _ _ => rfl)) (pma_cons (pm_gi g_MOST_TIME (by rfl)) pma_nil))))))), ?_⟩
  rintro ds Wo Q E' - ⟨x, r, ws, rfl, g1, g2, hw, q⟩
  have gx := good_tup g1 _ (List.mem_cons_self ..)
  walk_at "pls"
  have e2 : (((r.length + 1 : Nat) : Int) == 2) = decide (r.length = 1) := by
    rw [Bool.eq_iff_iff]; simp; omega
  simp only [e2]
  by_cases h1 : r.length = 1
  · match r, h1 with
    | [v], _ =>
      simp only [List.length_singleton, decide_true, Bool.not_true, Bool.false_eq_true, if_false, at0, at1, Option.some.injEq, exists_eq_left', gx, g2, true_and, any_words]
      by_cases h2 : ws.contains x = true
      · have hl := hw x (by simpa using h2)
        obtain ⟨n, hn⟩ := Option.isSome_iff_exists.mp hl
        have gv := good_tup g1 v (by simp)
        have hx : x ∈ ws := by simpa using h2
        simp only [h2, Bool.not_true, Bool.false_eq_true, if_false]
        refine ⟨x, _, rfl, tab_least hn, v, n, 8, rfl, good_dat gv, ?_⟩
        unfold isCounted at q
        simpa [hx, hn] using q
      · have hx : ¬ x ∈ ws := by simpa using h2
        unfold isCounted at q
        simpa [hx] using q
  · unfold isCounted at q
    split at q
    · exact absurd rfl h1
    · simpa [h1] using q
abbrev s_is_worded : Stmt := topS 11
abbrev N_is_worded : List Str := ["value"]
theorem sc_is_worded : FnScope N_is_worded ["value"] (defScope s_is_worded) := ⟨rfl, rfl, rfl, by decide +kernel, rfl, by decide +kernel, by decide +kernel⟩
theorem ok_is_worded  {k : Nat}  (T : TopD K mg "is_worded" ["value"] s_is_worded) (m_isinstance : mg "isinstance" = none) (m_str : mg "str" = none) (m_tuple : mg "tuple" = none)  :
    CallF P w K mg base "is_worded" 1 (k + 1) (φ_is_worded) := by
  refine call_of (N := N_is_worded) (k := k) T sc_is_worded fun f cdv A outer s H E hr => ⟨_, (pmss_one (pms_ret (pm_and (pm_callB cd_isi (by rfl) m_isinstance (by decide +kernel) (pma_cons (pm_var (pv 0)) (pma_cons (pm_ty (by rfl) m_tuple boot_tuple) pma_nil))) (pm_and (pm_cmp (od_ne (Room.hu64 hr)) (pm_var (pv 0)) (pm_tup pma_nil) (nomark _)) (pm_one (pm_callB cd_isi (by rfl) m_isinstance (by decide +kernel) (pma_cons (pm_ixK (Room.hu1 hr) (pk_var (pv 0)) pm_int (fun _ _ => rfl)) (pma_cons (pm_ty (by rfl) m_str boot_str) pma_nil)))))))), ?_⟩
  rintro ds Wo Q E' - ⟨v, rfl, hv, q⟩
  cases v with
  | tup xs =>
    cases xs with
    | nil =>
      walk_at "pls"
      exact q
    | cons x r =>
      have gx := good_tup hv x (List.mem_cons_self ..)
      walk_at "pls"
      simp only [hv, good_dat gx, true_and]
      cases x <;> exact q
  | dct _ _ => simp [D.good, D.plain] at hv
  | adr _ => simp [D.good, D.plain] at hv
  | ty _ => simp [D.good, D.plain] at hv
  | _ =>
    walk_at "pls"
    exact q
abbrev s_is_test : Stmt := topS 12
abbrev N_is_test : List Str := ["value"]
theorem sc_is_test : FnScope N_is_test ["value"] (defScope s_is_test) := ⟨rfl, rfl, rfl, by decide +kernel, rfl, by decide +kernel, by decide +kernel⟩
theorem ok_is_test  {k : Nat}  (T : TopD K mg "is_test" ["value"] s_is_test) (c_is_counted : CallF P w K mg base "is_counted" 2 k (φ_is_counted)) (c_is_worded : CallF P w K mg base "is_worded" 1 k (φ_is_worded))  :
    CallF P w K mg base "is_test" 1 (k + 1) (φ_is_test) := by
  refine call_of (N := N_is_test) (k := k) T sc_is_test fun f cdv A outer s H E hr => ⟨_, (pmss_cons (pms_if (pmt_not (pmt_val (pm_callF c_is_worded hr (by rfl) (pma_cons (pm_var (pv 0)) pma_nil)))) (pmss_one (pms_ret pm_bl)) pmss_nil)
      (pmss_one (pms_ret (pm_or (pm_cmp (od_in (Room.hu65 hr)) (pm_var (pv 0)) (pm_tup (pma_cons (pm_tup (pma_cons pm_str pma_nil)) (pma_cons (pm_tup (pma_cons pm_str pma_nil)) pma_nil))) (by rfl)) (pm_one (pm_callF c_is_counted hr (by rfl) (pma_cons (pm_var (pv 0)) (pma_cons (pm_tup (pma_cons pm_str pma_nil)) pma_nil)))))))), ?_⟩
  rintro ds Wo Q E' - ⟨v, rfl, hv, q⟩
  have hq : ∀ b, isTest v = b → Q (.bl b) Wo := fun b h => h ▸ q
  walk_at "pls"
  refine ⟨v, rfl, hv, _, rfl, ?_⟩
  cases hw : isWorded v with
  | false => exact hq false (isTest_worded hw)
  | true =>
    have g2 : D.good (.tup [.tup [.str "due"], .tup [.str "flag"]]) = true := by decide +kernel
    simp only [hv, g2, Bool.not_true, Bool.false_eq_true, if_false, true_and]
    unfold isWorded at hw
    split at hw
    · rename_i x r
      simp only [eqD_tup, eqDs_cons, eqD_str, eqDs_nil_l, Bool.or_false]
      refine ite2 (fun c => ?_) (fun c => ?_)
      · refine hq true ?_
        cases r with
        | nil =>
          simp only [List.isEmpty_nil, Bool.and_true, Bool.or_eq_true, beq_iff_eq] at c
          rcases c with rfl | rfl <;> rfl
        | cons n r => simp at c
      · refine ⟨x, r, ["late"], rfl, hv, (by decide +kernel), (fun y hy => ?_), hq _ ?_⟩
        · have e : y = "late" := by simpa using hy
          subst e; rfl
        · cases r with
          | nil =>
            simp only [List.isEmpty_nil, Bool.and_true, Bool.or_eq_true, beq_iff_eq, not_or] at c
            simp [isTest, isCounted, Ne.symm c.1, Ne.symm c.2]
          | cons n r =>
            cases r with
            | nil =>
              by_cases hx : x = "late"
              · subst hx; simp [isTest, isCounted, leastOf]
              · simp [isTest, isCounted, hx]
            | cons m r => simp [isTest, isCounted]
    · cases hw
abbrev s_is_statement : Stmt := topS 13
abbrev N_is_statement : List Str := ["value", "deep", "body"]
theorem sc_is_statement : FnScope N_is_statement ["value", "deep"] (defScope s_is_statement) := ⟨rfl, rfl, rfl, by decide +kernel, rfl, by decide +kernel, by decide +kernel⟩
theorem ok_is_statement {d : Nat} {k : Nat}  (T : TopD K mg "is_statement" ["value", "deep"] s_is_statement) (c_is_counted : CallF P w K mg base "is_counted" 2 k (φ_is_counted)) (m_all : mg "all" = none) (c_is_body : CallF P w K mg base "is_body" 2 k (φ_is_body' d)) (c_is_test : CallF P w K mg base "is_test" 1 k (φ_is_test)) (m_len : mg "len" = none) (c_is_worded : CallF P w K mg base "is_worded" 1 k (φ_is_worded))  :
    CallF P w K mg base "is_statement" 2 (k + 1) (φ_is_statement d) := by
  refine call_of (N := N_is_statement) (k := k) T sc_is_statement fun f cdv A outer s H E hr => ⟨_, (pmss_cons (pms_if (pmt_w (pmw_or (pmt_not (pmt_val (pm_callF c_is_worded hr (by rfl) (pma_cons (pm_var (pv 0)) pma_nil)))) (pmw_or1 (pmt_cmp od_lt (pm_var (pv 1)) pm_int (nomark _))))) (pmss_one (pms_ret pm_bl)) pmss_nil)
      (pmss_cons (pms_if (pmt_cmp (od_eq (Room.hu64 hr)) (pm_ixK (Room.hu1 hr) (pk_var (pv 0)) pm_int (fun _ _ => rfl)) pm_str (nomark _)) (pmss_one (pms_ret (pm_and (pm_cmp (od_eq (Room.hu64 hr)) (pm_lenK (by rfl) m_len (pk_var (pv 0))) pm_int (nomark _)) (pm_and (pm_callF c_is_test hr (by rfl) (pma_cons (pm_ixK (Room.hu1 hr) (pk_var (pv 0)) pm_int (fun _ _ => rfl)) pma_nil)) (pm_one (pm_callB (cd_all rfl) (by rfl) m_all (by decide +kernel) (pma_cons (pm_lc (own := [("body", 2)]) rfl sc_is_statement.nd (pmi_seq (pm_slice sld (pm_var (pv 0)) (.inr ⟨_, _, rfl, rfl, pm_int⟩) (.inl ⟨rfl, rfl⟩))) (blkOk_by (own := [("body", 2)]) (N := N_is_statement) (sc := defScope s_is_statement) (by decide +kernel)) (fun _ _ _ _ _ => (pmg_of (vs := [2]) (pg_name (i := 2) sc_is_statement.nd rfl (.inl rfl)))) (fun _ _ _ _ _ => pmts_nil) (fun _ _ _ _ _ => (pm_callF c_is_body hr (by rfl) (pma_cons (pm_var (pv 2)) (pma_cons (pm_op od_sub (pm_var (pv 1)) pm_int) pma_nil))))) pma_nil))))))) pmss_nil)
      (pmss_cons (pms_if (pmt_cmp (od_in (Room.hu65 hr)) (pm_var (pv 0)) (pm_tup (pma_cons (pm_tup (pma_cons pm_str pma_nil)) (pma_cons (pm_tup (pma_cons pm_str pma_nil)) (pma_cons (pm_tup (pma_cons pm_str pma_nil)) pma_nil)))) (by rfl)) (pmss_one (pms_ret pm_bl)) pmss_nil)
      (pmss_one (pms_ret (pm_callF c_is_counted hr (by rfl) (pma_cons (pm_var (pv 0)) (pma_cons (pm_tup (pma_cons pm_str (pma_cons pm_str (pma_cons pm_str (pma_cons pm_str (pma_cons pm_str pma_nil)))))) pma_nil)))))))), ?_⟩
  rintro ds Wo Q E' - ⟨v, rfl, hv, q⟩
  have hq : ∀ b, isStm d v = b → Q (.bl b) Wo := fun b h => h ▸ q
  walk_at "pls"
  refine ⟨v, rfl, hv, _, rfl, ?_⟩
  cases hw : isWorded v with
  | false => exact hq false (isStm_worded hw)
  | true =>
    simp only [Bool.not_true, Bool.false_eq_true, if_false, decide_eq_true_eq]
    cases d with
    | zero => simpa using hq false rfl
    | succ d =>
      have e1 : ¬ ((d + 1 : Nat) : Int) < 1 := by omega
      rw [if_neg e1]
      unfold isWorded at hw
      split at hw
      · rename_i x r
        have g2 : D.good (.tup [.tup [.str "until"], .tup [.str "up"], .tup [.str "down"]]) = true := by decide +kernel
        have gm := good_tup hv
        try simp only [eqD_x_str, beq_iff_eq, ↓pC, ↓pOp, ↓pUn, ↓pSl, ↓pPart, ↓pNil, ↓pCons, ↓pTup, ↓pLst, ↓pCallB, ↓pTest, ↓pNot, ↓pAnd, ↓pOr, ↓pAndV, ↓pOrV, ↓pNotV, ↓pIf, ↓pNext, ↓pSeq, ↓pBreak, ↓pCont, ↓pDrop, ↓pRet, ↓pRetN, ↓pIfS, ↓pgNil, ↓pgCons, ↓pgTup, ↓pAsg, ↓pRaise, ↓pCall, ↓pIter, ↓pFor, ↓pLc, ↓pYes, ↓pkOf, ↓pIxK, ↓pTabG, ↓pLenK, ↓pChain, ↓pStore, ↓pAppend, ↓pPop, ↓poLst, ↓poDct, ↓pNewW, ↓pRng1, ↓pRng2, ↓pTry, ↓pTryAs, ↓oEq, ↓oNe, ↓oLen, ↓oSum, ↓oAll, ↓oAny, ↓oIsi, start0, List.map_cons, List.map_nil, List.length_cons, List.length_nil, List.cons_append, List.nil_append, List.getElem?_cons_zero, List.getElem?_cons_succ, List.set_cons_zero, List.set_cons_succ, List.replicate, D.bl.injEq, D.int.injEq, D.str.injEq, D.tup.injEq, D.lst.injEq, exists_eq_left', exists_eq_left, Option.some.injEq, Bool.false_eq_true, if_true, if_false, true_and, and_true, false_and, and_false, isi_int, isi_bool, isi_str, isi_tuple, isi_list, isiT_int, isiT_bool, isiT_str, isiT_tuple, isiT_list, Bool.not_true, Bool.not_false, dat_non, dat_bl, dat_int, dat_str, dat_tup, dat_lst, isInt_non, isInt_bl, isInt_int, isInt_str, isInt_tup, isInt_lst, isBool_non, isBool_bl, isBool_int, isBool_str, isBool_tup, isBool_lst, isStr_non, isStr_bl, isStr_int, isStr_str, isStr_tup, isStr_lst, isTup_non, isTup_bl, isTup_int, isTup_str, isTup_tup, isTup_lst, isLst_non, isLst_bl, isLst_int, isLst_str, isLst_tup, isLst_lst, Nat.reduceAdd, Nat.zero_add, sz_0, sz_1, sz_2, sz_3, sz_4, sz_5, sz_6, sz_7, sz_8, sz_9, sz_10, sz_11, sz_12, List.any_cons, List.any_nil, eqD_tup, eqD_str, eqD_int, eqDs_cons, eqDs_nil, eqDs_cn, eqDs_nc, Bool.or_false, Bool.and_true, at0, at1, at2, at3, at4, good_int, good_bl, good_nil, good_nilL, good_non, eqDs_nil_r, eqDs_nil_l, List.isEmpty_nil, List.isEmpty_cons, Bool.and_false, Bool.or_true, Bool.false_or, Bool.true_or, Bool.false_and, Bool.true_and, encB, wipS_mk, List.foldr_cons, List.foldr_nil, con_updW, ↓ixC_ownD, ↓oIx_tup, ↓oIx_lst, ↓oIx_str, ↓lenC_ownL, ↓lenC_ownD, ↓setC_ownD, putC_adr, Own_lst_inj, Con_own_inj, updW_upd, Nat.reduceSub, Nat.sub_self, ↓itD_lst, ↓itD_tup, ↓oInt_i, ↓oCmp_i, ↓oAdd_i, ↓oAdd_s, ↓oAdd_t, ↓oAdd_l, ↓oNeg_i, ↓o1I_i, ↓o2I_i, ↓oSl_t, ↓oSl_l, ↓oList_t, ↓oList_l, ↓oTuple_t, ↓oTuple_l, ↓oIn_t, ↓oIn_l, ↓oIsN_n, ↓ixC_ownLi, ↓setC_ownLi, ixN20, ixN21, ex_int1, ex_int2, ↓pSet_eq, ↓ixK_tup, ↓ixK_lst, ↓ixK_str, ↓ixK_dct, ↓lenK_tup, ↓lenK_lst, ↓lenK_str, ↓pSetO_eq, ↓pPar_eq, ↓kPar_mk, ↓pGet2, ↓pFrzO_eq, ↓kFrz_lst, ↓kFrz_dct, ↓pPairs_nil, ↓pPairs_cons, ↓poDisp, ↓getC_val, isDc_val, ↓poCat, ↓catD_l, ↓pVarV0, ↓pVarV1, ↓pVarV2, ↓pVarL0, ↓pVarL1, ↓pVarL2, ↓pVarD0, ↓pVarD1, ↓pVarD2, ↓pkVarV0, ↓pkVarV1, ↓pkVarV2, ↓pkVarO0, ↓pkVarO1, ↓pkVarO2, ↓kSetN0, ↓kSetN1, ↓kSetN2, ↓kSetO_N0, ↓kSetO_N1, ↓kSetO_N2, ↓pgNameN0, ↓pgNameN1, ↓pgNameN2, ↓ixS0, ↓ixS1, ↓ixS2, ↓lenS0, ↓lenS1, ↓lenS2, ↓setS0, ↓setS1, ↓setS2, ↓conS0, ↓conS1, ↓conS2, ↓putS0, ↓putS1, ↓putS2]
        refine ⟨gm _ (List.mem_cons_self ..), by decide +kernel, ?_⟩
        refine ite2 (fun c => ?_) (fun c => ?_)
        · subst c
          by_cases h3 : r.length = 3
          · match r, h3 with
            | [t, a, b], _ =>
              simp only [List.length_cons, List.length_nil, Nat.zero_add, Nat.reduceAdd, if_true, at1, Option.some.injEq, exists_eq_left']
              refine ⟨t, rfl, gm t (by simp), _, rfl, ?_⟩
              refine ite2 (fun c2 => ?_) (fun c2 => ?_)
              · rw [show (2 : Int) = ((2 : Nat) : Int) from rfl, cut_from _ _ (by simp)]
                show lcW _ _ _ _ _ [a, b] [] _
                have e3 : ((d + 1 : Nat) : Int) - 1 = (d : Int) := by omega
                refine lcW_map (f := fun v => .bl (isBod d v)) _ _ (fun y hy Q' hQ' => ?_) (by simp [sizeLine]) ?_
                · walk_at "pls"
                  refine ⟨y, by rw [e3], gm y (List.mem_cons_of_mem _ (List.mem_cons_of_mem _ hy)), hQ' _ ?_⟩
                  rfl
                · refine ⟨_, [isBod d a, isBod d b], rfl, rfl, hq _ ?_⟩
                  simp [isStm, c2, isBod]
              · exact hq false (by simp [isStm, c2])
          · refine ite2 (fun c3 => absurd c3 (by omega)) (fun _ => ?_)
            refine hq false ?_
            simp only [isStm, if_true]
            split
            · simp at h3
            · rfl
        · simp only [hv, g2, true_and, eqD_tup, eqDs_cons, eqD_str, eqDs_nil_l, Bool.or_false]
          refine ite2 (fun c2 => ?_) (fun c2 => ?_)
          · refine hq true ?_
            simp only [isStm, if_neg c]
            rw [if_pos]
            rw [← c2]
            cases r.isEmpty <;> simp [Bool.beq_comm, eq_comm]
          · refine ⟨x, r, ["wait", "rest", "move", "ahead", "set"], rfl, hv, (by decide +kernel), (fun y hy => ?_), hq _ ?_⟩
            · simp at hy
              rcases hy with rfl | rfl | rfl | rfl | rfl <;> rfl
            · simp only [isStm, if_neg c]
              rw [if_neg]
              intro c3
              apply c2
              rw [← c3]
              cases r.isEmpty <;> simp [Bool.beq_comm, eq_comm]
      · cases hw
abbrev s_is_body : Stmt := topS 14
abbrev N_is_body : List Str := ["value", "deep", "one"]
theorem sc_is_body : FnScope N_is_body ["value", "deep"] (defScope s_is_body) := ⟨rfl, rfl, rfl, by decide +kernel, rfl, by decide +kernel, by decide +kernel⟩
theorem ok_is_body {d : Nat} {k : Nat}  (T : TopD K mg "is_body" ["value", "deep"] s_is_body) (m_all : mg "all" = none) (c_is_statement : CallF P w K mg base "is_statement" 2 k (φ_is_statement d)) (m_len : mg "len" = none) (m_isinstance : mg "isinstance" = none) (m_tuple : mg "tuple" = none)  :
    CallF P w K mg base "is_body" 2 (k + 1) (φ_is_body d) := by
  refine call_of (N := N_is_body) (k := k) T sc_is_body fun f cdv A outer s H E hr => ⟨_, (pmss_one (pms_ret (pm_and (pm_callB cd_isi (by rfl) m_isinstance (by decide +kernel) (pma_cons (pm_var (pv 0)) (pma_cons (pm_ty (by rfl) m_tuple boot_tuple) pma_nil))) (pm_and (pm_cmp od_le (pm_lenK (by rfl) m_len (pk_var (pv 0))) pm_int (nomark _)) (pm_one (pm_callB (cd_all rfl) (by rfl) m_all (by decide +kernel) (pma_cons (pm_lc (own := [("one", 2)]) rfl sc_is_body.nd (pmi_seq (pm_var (pv 0))) (blkOk_by (own := [("one", 2)]) (N := N_is_body) (sc := defScope s_is_body) (by decide +kernel)) (fun _ _ _ _ _ => (pmg_of (vs := [2]) (pg_name (i := 2) sc_is_body.nd rfl (.inl rfl)))) (fun _ _ _ _ _ => pmts_nil) (fun _ _ _ _ _ => (pm_callF c_is_statement hr (by rfl) (pma_cons (pm_var (pv 2)) (pma_cons (pm_var (pv 1)) pma_nil))))) pma_nil))))))), ?_⟩
  rintro ds Wo Q E' - ⟨v, rfl, hv, q⟩
  have hq : ∀ b, isBod d v = b → Q (.bl b) Wo := fun b h => h ▸ q
  walk_at "pls"
  cases v with
  | tup xs =>
    walk_at "pls"
    refine ite2 (fun c => ?_) (fun c => ?_)
    · have c : xs.length ≤ 8 := by have := of_decide_eq_true c; omega
      refine lcW_map (f := fun v => .bl (isStm d v)) _ _ (fun y hy Q' hQ' => ?_) (by simp [sizeLine]; omega) ?_
      · walk_at "pls"
        refine ⟨y, rfl, good_tup hv y hy, hQ' _ ?_⟩
        rfl
      · refine ⟨_, xs.map (isStm d), rfl, ?_, hq _ ?_⟩
        · rw [← bls_map (xs.map (isStm d)), List.nil_append, List.map_map]; rfl
        · simp [isBod, bodW, c]
    · have c : ¬ xs.length ≤ 8 := by simp at c; omega
      exact hq false (by simp [isBod, bodW, c])
  | dct _ _ => simp [D.good, D.plain] at hv
  | adr _ => simp [D.good, D.plain] at hv
  | ty _ => simp [D.good, D.plain] at hv
  | _ =>
    walk_at "pls"
    exact q
abbrev s_bodies_of : Stmt := topS 15
abbrev N_bodies_of : List Str := ["statement"]
theorem sc_bodies_of : FnScope N_bodies_of ["statement"] (defScope s_bodies_of) := ⟨rfl, rfl, rfl, by decide +kernel, rfl, by decide +kernel, by decide +kernel⟩
theorem ok_bodies_of  {k : Nat}  (T : TopD K mg "bodies_of" ["statement"] s_bodies_of) (m_list : mg "list" = none)  :
    CallF P w K mg base "bodies_of" 1 (k + 1) (φ_bodies_of) := by
  refine call_of (N := N_bodies_of) (k := k) T sc_bodies_of fun f cdv A outer s H E hr => ⟨_, (pmss_one (pms_ret (pm_ifExp (pmt_cmp (od_eq (Room.hu64 hr)) (pm_ixK (Room.hu1 hr) (pk_var (pv 0)) pm_int (fun _ _ => rfl)) pm_str (nomark _)) (pm_callTy cd_list (by rfl) m_list boot_list (pma_cons (pm_slice sld (pm_var (pv 0)) (.inr ⟨_, _, rfl, rfl, pm_int⟩) (.inl ⟨rfl, rfl⟩)) pma_nil)) (pm_lst pma_nil)))), ?_⟩
  rintro ds Wo Q E' - ⟨s, rfl, q⟩
  walk_at "pls"
  have g1 : D.good (.str "if") = true := by decide +kernel
  cases s with
  | ite t a b =>
    simp only [encS]
    walk_at "pls"
    simp only [g1]
    walk_at "pls"
    rw [show (2 : Int) = ((2 : Nat) : Int) from rfl, cut_from _ _ (by simp)]
    exact q
  | _ =>
    simp only [encS]
    walk_at "pls"
    refine ⟨by decide +kernel, g1, ?_⟩
    refine ite2 (fun c => absurd c (by decide +kernel)) (fun _ => ?_)
    exact q
theorem okr_bodies_of {k : Nat} (T : TopD K mg "bodies_of" ["statement"] s_bodies_of) (m_list : mg "list" = none) :
    CallF P w K mg base "bodies_of" 1 (k + 1) (φR (runD 1 (r_bodies_of))) :=
  callR_of (N := N_bodies_of) (k := k) T sc_bodies_of fun f cdv A outer s H E hr => (rmss_one (rms_ret (rm_ifExp (rmt_cmp (of_eq (Room.hu64 hr)) (rm_ixK (Room.hu1 hr) (rk_var (pv 0)) rm_int (fun _ _ => rfl)) rm_str (nomark _)) (rm_callTy (cf_listA rfl) (by rfl) m_list boot_list (rma_cons (rm_slice (rm_var (pv 0)) (.inr ⟨_, _, rfl, rfl, rm_int⟩) (.inl ⟨rfl, rfl⟩)) rma_nil)) (rm_lst rma_nil))))
abbrev s_listed : Stmt := topS 16
abbrev N_listed : List Str := ["body", "found", "statement", "inner"]
theorem sc_listed : FnScope N_listed ["body"] (defScope s_listed) := ⟨rfl, rfl, rfl, by decide +kernel, rfl, by decide +kernel, by decide +kernel⟩
theorem ok_listed {d : Nat} {k : Nat}  (T : TopD K mg "listed" ["body"] s_listed) (c_bodies_of : CallF P w K mg base "bodies_of" 1 k (φ_bodies_of)) (c_listed : CallF P w K mg base "listed" 1 k (lowφ 1 φ_listed d)) (hd : d ≤ 4) :
    CallF P w K mg base "listed" 1 (k + 1) (φ_listed d) := by
  refine call_of (N := N_listed) (k := k) T sc_listed fun f cdv A outer s H E hr => ⟨_, (pmss_cons (pms_set (i := 1) (fun W t => ps_set (i := 1) sc_listed.nd rfl (.inl rfl) ((pm_lst pma_nil) W t)))
      (pmss_cons (pms_for (passes_of rfl) rfl (pmi_seq (pm_var (pv 0))) (pmg_of (vs := [2]) (pg_name (i := 2) sc_listed.nd rfl (.inl rfl)))
      (pmss_cons (pms_set (i := 1) (fun W t => ps_set (i := 1) sc_listed.nd rfl (.inl rfl) ((pm_op od_add (pm_var (pv 1)) (pm_lst (pma_cons (pm_var (pv 2)) pma_nil))) W t)))
      (pmss_one (pms_for (passes_of rfl) rfl (pmi_seq (pm_callF c_bodies_of hr (by rfl) (pma_cons (pm_var (pv 2)) pma_nil))) (pmg_of (vs := [3]) (pg_name (i := 3) sc_listed.nd rfl (.inl rfl)))
      (pmss_one (pms_set (i := 1) (fun W t => ps_set (i := 1) sc_listed.nd rfl (.inl rfl) ((pm_op od_add (pm_var (pv 1)) (pm_callF c_listed hr (by rfl) (pma_cons (pm_var (pv 3)) pma_nil))) W t))))))))
      (pmss_one (pms_ret (pm_var (pv 1)))))), ?_⟩
  rintro ds Wo Q E' - ⟨b, rfl, hb, q⟩
  have hbn : (listedB b).length ≤ 34952 := Nat.le_trans (okB_bnd hb) (Nat.le_trans (bnd_mono hd) (by decide))
  walk_at "pls"
  rw [encSs_map]
  refine forW_list encS (fun r S => ∃ b0 s2 s3, b = b0 ++ r ∧ S = ⟨[.val (.tup (encSs b)), .val (.lst ((listedB b0).map encS)), s2, s3], Wo⟩) ?_ ?_ b _ ⟨[], .emp, .emp, rfl, by rw [encSs_map]; rfl⟩
  · rintro S ⟨b0, s2, s3, e, rfl⟩
    walk_at "pls"
    rw [List.append_nil] at e
    exact e ▸ q
  · rintro s r S K' ⟨b0, s2, s3, e, rfl⟩ hK
    have hs : okS d s = true := (okB_iff.mp hb).2 s (by rw [e]; simp)
    have el : listedB b = listedB b0 ++ (listedS s ++ listedB r) := by rw [e, listedB_append]; rfl
    have eL := congrArg List.length el
    simp only [List.length_append] at eL
    have hp := listedS_pos s
    have hp := listedS_pos s
    walk_at "pls"
    refine ⟨by show _ ≤ 2 ^ 24; rw [List.length_map]; omega, s, rfl, ?_⟩
    have done : ∀ s3, K' ⟨[.val (.tup (encSs b)), .val (.lst ((listedB (b0 ++ [s])).map encS)), .val (encS s), s3], Wo⟩ := fun s3 => hK _ ⟨b0 ++ [s], _, _, by rw [e]; simp, rfl⟩
    have e1 : listedB (b0 ++ [s]) = listedB b0 ++ listedS s := by rw [listedB_append, listedB, listedB, List.append_nil]
    rw [e1] at done
    cases s with
    | ite t x y =>
      cases d with
      | zero => simp [okS] at hs
      | succ d =>
        obtain ⟨_, hx, hy⟩ := okS_ite.mp hs
        simp only [listedS, List.length_cons, List.length_append] at eL
        try simp only [bodD, forW, Nat.add_sub_cancel, ↓pC, ↓pOp, ↓pUn, ↓pSl, ↓pPart, ↓pNil, ↓pCons, ↓pTup, ↓pLst, ↓pCallB, ↓pTest, ↓pNot, ↓pAnd, ↓pOr, ↓pAndV, ↓pOrV, ↓pNotV, ↓pIf, ↓pNext, ↓pSeq, ↓pBreak, ↓pCont, ↓pDrop, ↓pRet, ↓pRetN, ↓pIfS, ↓pgNil, ↓pgCons, ↓pgTup, ↓pAsg, ↓pRaise, ↓pCall, ↓pIter, ↓pFor, ↓pLc, ↓pYes, ↓pkOf, ↓pIxK, ↓pTabG, ↓pLenK, ↓pChain, ↓pStore, ↓pAppend, ↓pPop, ↓poLst, ↓poDct, ↓pNewW, ↓pRng1, ↓pRng2, ↓pTry, ↓pTryAs, ↓oEq, ↓oNe, ↓oLen, ↓oSum, ↓oAll, ↓oAny, ↓oIsi, start0, List.map_cons, List.map_nil, List.length_cons, List.length_nil, List.cons_append, List.nil_append, List.getElem?_cons_zero, List.getElem?_cons_succ, List.set_cons_zero, List.set_cons_succ, List.replicate, D.bl.injEq, D.int.injEq, D.str.injEq, D.tup.injEq, D.lst.injEq, exists_eq_left', exists_eq_left, Option.some.injEq, Bool.false_eq_true, if_true, if_false, true_and, and_true, false_and, and_false, isi_int, isi_bool, isi_str, isi_tuple, isi_list, isiT_int, isiT_bool, isiT_str, isiT_tuple, isiT_list, Bool.not_true, Bool.not_false, dat_non, dat_bl, dat_int, dat_str, dat_tup, dat_lst, isInt_non, isInt_bl, isInt_int, isInt_str, isInt_tup, isInt_lst, isBool_non, isBool_bl, isBool_int, isBool_str, isBool_tup, isBool_lst, isStr_non, isStr_bl, isStr_int, isStr_str, isStr_tup, isStr_lst, isTup_non, isTup_bl, isTup_int, isTup_str, isTup_tup, isTup_lst, isLst_non, isLst_bl, isLst_int, isLst_str, isLst_tup, isLst_lst, Nat.reduceAdd, Nat.zero_add, sz_0, sz_1, sz_2, sz_3, sz_4, sz_5, sz_6, sz_7, sz_8, sz_9, sz_10, sz_11, sz_12, List.any_cons, List.any_nil, eqD_tup, eqD_str, eqD_int, eqDs_cons, eqDs_nil, eqDs_cn, eqDs_nc, Bool.or_false, Bool.and_true, at0, at1, at2, at3, at4, good_int, good_bl, good_nil, good_nilL, good_non, eqDs_nil_r, eqDs_nil_l, List.isEmpty_nil, List.isEmpty_cons, Bool.and_false, Bool.or_true, Bool.false_or, Bool.true_or, Bool.false_and, Bool.true_and, encB, wipS_mk, List.foldr_cons, List.foldr_nil, con_updW, ↓ixC_ownD, ↓oIx_tup, ↓oIx_lst, ↓oIx_str, ↓lenC_ownL, ↓lenC_ownD, ↓setC_ownD, putC_adr, Own_lst_inj, Con_own_inj, updW_upd, Nat.reduceSub, Nat.sub_self, ↓itD_lst, ↓itD_tup, ↓oInt_i, ↓oCmp_i, ↓oAdd_i, ↓oAdd_s, ↓oAdd_t, ↓oAdd_l, ↓oNeg_i, ↓o1I_i, ↓o2I_i, ↓oSl_t, ↓oSl_l, ↓oList_t, ↓oList_l, ↓oTuple_t, ↓oTuple_l, ↓oIn_t, ↓oIn_l, ↓oIsN_n, ↓ixC_ownLi, ↓setC_ownLi, ixN20, ixN21, ex_int1, ex_int2, ↓pSet_eq, ↓ixK_tup, ↓ixK_lst, ↓ixK_str, ↓ixK_dct, ↓lenK_tup, ↓lenK_lst, ↓lenK_str, ↓pSetO_eq, ↓pPar_eq, ↓kPar_mk, ↓pGet2, ↓pFrzO_eq, ↓kFrz_lst, ↓kFrz_dct, ↓pPairs_nil, ↓pPairs_cons, ↓poDisp, ↓getC_val, isDc_val, ↓poCat, ↓catD_l, ↓pVarV0, ↓pVarV1, ↓pVarV2, ↓pVarV3, ↓pVarL0, ↓pVarL1, ↓pVarL2, ↓pVarL3, ↓pVarD0, ↓pVarD1, ↓pVarD2, ↓pVarD3, ↓pkVarV0, ↓pkVarV1, ↓pkVarV2, ↓pkVarV3, ↓pkVarO0, ↓pkVarO1, ↓pkVarO2, ↓pkVarO3, ↓kSetN0, ↓kSetN1, ↓kSetN2, ↓kSetN3, ↓kSetO_N0, ↓kSetO_N1, ↓kSetO_N2, ↓kSetO_N3, ↓pgNameN0, ↓pgNameN1, ↓pgNameN2, ↓pgNameN3, ↓ixS0, ↓ixS1, ↓ixS2, ↓ixS3, ↓lenS0, ↓lenS1, ↓lenS2, ↓lenS3, ↓setS0, ↓setS1, ↓setS2, ↓setS3, ↓conS0, ↓conS1, ↓conS2, ↓conS3, ↓putS0, ↓putS1, ↓putS2, ↓putS3]
        refine ⟨by omega, x, rfl, hx, ?_, by omega, y, rfl, hy, ?_, ?_⟩
        · show _ ≤ 2 ^ 24; simp only [List.length_append, List.length_map, List.length_singleton]; omega
        · show _ ≤ 2 ^ 24; simp only [List.length_append, List.length_map, List.length_singleton]; omega
        · have := done (.val (encB y))
          simp only [listedS, List.map_append, List.map_cons, List.append_assoc, List.cons_append] at this
          simpa only [List.append_assoc, List.cons_append, List.nil_append, encB] using this
    | _ =>
      try simp only [bodD, forW, ↓pC, ↓pOp, ↓pUn, ↓pSl, ↓pPart, ↓pNil, ↓pCons, ↓pTup, ↓pLst, ↓pCallB, ↓pTest, ↓pNot, ↓pAnd, ↓pOr, ↓pAndV, ↓pOrV, ↓pNotV, ↓pIf, ↓pNext, ↓pSeq, ↓pBreak, ↓pCont, ↓pDrop, ↓pRet, ↓pRetN, ↓pIfS, ↓pgNil, ↓pgCons, ↓pgTup, ↓pAsg, ↓pRaise, ↓pCall, ↓pIter, ↓pFor, ↓pLc, ↓pYes, ↓pkOf, ↓pIxK, ↓pTabG, ↓pLenK, ↓pChain, ↓pStore, ↓pAppend, ↓pPop, ↓poLst, ↓poDct, ↓pNewW, ↓pRng1, ↓pRng2, ↓pTry, ↓pTryAs, ↓oEq, ↓oNe, ↓oLen, ↓oSum, ↓oAll, ↓oAny, ↓oIsi, start0, List.map_cons, List.map_nil, List.length_cons, List.length_nil, List.cons_append, List.nil_append, List.getElem?_cons_zero, List.getElem?_cons_succ, List.set_cons_zero, List.set_cons_succ, List.replicate, D.bl.injEq, D.int.injEq, D.str.injEq, D.tup.injEq, D.lst.injEq, exists_eq_left', exists_eq_left, Option.some.injEq, Bool.false_eq_true, if_true, if_false, true_and, and_true, false_and, and_false, isi_int, isi_bool, isi_str, isi_tuple, isi_list, isiT_int, isiT_bool, isiT_str, isiT_tuple, isiT_list, Bool.not_true, Bool.not_false, dat_non, dat_bl, dat_int, dat_str, dat_tup, dat_lst, isInt_non, isInt_bl, isInt_int, isInt_str, isInt_tup, isInt_lst, isBool_non, isBool_bl, isBool_int, isBool_str, isBool_tup, isBool_lst, isStr_non, isStr_bl, isStr_int, isStr_str, isStr_tup, isStr_lst, isTup_non, isTup_bl, isTup_int, isTup_str, isTup_tup, isTup_lst, isLst_non, isLst_bl, isLst_int, isLst_str, isLst_tup, isLst_lst, Nat.reduceAdd, Nat.zero_add, sz_0, sz_1, sz_2, sz_3, sz_4, sz_5, sz_6, sz_7, sz_8, sz_9, sz_10, sz_11, sz_12, List.any_cons, List.any_nil, eqD_tup, eqD_str, eqD_int, eqDs_cons, eqDs_nil, eqDs_cn, eqDs_nc, Bool.or_false, Bool.and_true, at0, at1, at2, at3, at4, good_int, good_bl, good_nil, good_nilL, good_non, eqDs_nil_r, eqDs_nil_l, List.isEmpty_nil, List.isEmpty_cons, Bool.and_false, Bool.or_true, Bool.false_or, Bool.true_or, Bool.false_and, Bool.true_and, encB, wipS_mk, List.foldr_cons, List.foldr_nil, con_updW, ↓ixC_ownD, ↓oIx_tup, ↓oIx_lst, ↓oIx_str, ↓lenC_ownL, ↓lenC_ownD, ↓setC_ownD, putC_adr, Own_lst_inj, Con_own_inj, updW_upd, Nat.reduceSub, Nat.sub_self, ↓itD_lst, ↓itD_tup, ↓oInt_i, ↓oCmp_i, ↓oAdd_i, ↓oAdd_s, ↓oAdd_t, ↓oAdd_l, ↓oNeg_i, ↓o1I_i, ↓o2I_i, ↓oSl_t, ↓oSl_l, ↓oList_t, ↓oList_l, ↓oTuple_t, ↓oTuple_l, ↓oIn_t, ↓oIn_l, ↓oIsN_n, ↓ixC_ownLi, ↓setC_ownLi, ixN20, ixN21, ex_int1, ex_int2, ↓pSet_eq, ↓ixK_tup, ↓ixK_lst, ↓ixK_str, ↓ixK_dct, ↓lenK_tup, ↓lenK_lst, ↓lenK_str, ↓pSetO_eq, ↓pPar_eq, ↓kPar_mk, ↓pGet2, ↓pFrzO_eq, ↓kFrz_lst, ↓kFrz_dct, ↓pPairs_nil, ↓pPairs_cons, ↓poDisp, ↓getC_val, isDc_val, ↓poCat, ↓catD_l, ↓pVarV0, ↓pVarV1, ↓pVarV2, ↓pVarV3, ↓pVarL0, ↓pVarL1, ↓pVarL2, ↓pVarL3, ↓pVarD0, ↓pVarD1, ↓pVarD2, ↓pVarD3, ↓pkVarV0, ↓pkVarV1, ↓pkVarV2, ↓pkVarV3, ↓pkVarO0, ↓pkVarO1, ↓pkVarO2, ↓pkVarO3, ↓kSetN0, ↓kSetN1, ↓kSetN2, ↓kSetN3, ↓kSetO_N0, ↓kSetO_N1, ↓kSetO_N2, ↓kSetO_N3, ↓pgNameN0, ↓pgNameN1, ↓pgNameN2, ↓pgNameN3, ↓ixS0, ↓ixS1, ↓ixS2, ↓ixS3, ↓lenS0, ↓lenS1, ↓lenS2, ↓lenS3, ↓setS0, ↓setS1, ↓setS2, ↓setS3, ↓conS0, ↓conS1, ↓conS2, ↓conS3, ↓putS0, ↓putS1, ↓putS2, ↓putS3]
      have := done s3
      simpa only [listedS, List.map_append, List.map_cons, List.map_nil] using this
theorem okr_listed {F_bodies_of : RFn} {F_listed : RFn} {k : Nat} (T : TopD K mg "listed" ["body"] s_listed) (c_bodies_of : CallF P w K mg base "bodies_of" 1 k (φR F_bodies_of)) (c_listed : CallF P w K mg base "listed" 1 k (φR F_listed)) :
    CallF P w K mg base "listed" 1 (k + 1) (φR (runD 4 (r_listed F_bodies_of F_listed))) :=
  callR_of (N := N_listed) (k := k) T sc_listed fun f cdv A outer s H E hr => (rmss_cons (rms_set (i := 1) (rm_lst rma_nil) (fun te h W t => ps_set (i := 1) sc_listed.nd rfl (.inl rfl) (h W t)))
      (rmss_cons (rms_for (passes_of rfl) rfl (rmi_seq (rm_var (pv 0))) (rmg_of (vs := [2]) (pg_name (i := 2) sc_listed.nd rfl (.inl rfl)))
      (rmss_cons (rms_set (i := 1) (rm_op of_add (rm_var (pv 1)) (rm_lst (rma_cons (rm_var (pv 2)) rma_nil))) (fun te h W t => ps_set (i := 1) sc_listed.nd rfl (.inl rfl) (h W t)))
      (rmss_one (rms_for (passes_of rfl) rfl (rmi_seq (rm_callF c_bodies_of hr (by rfl) (rma_cons (rm_var (pv 2)) rma_nil))) (rmg_of (vs := [3]) (pg_name (i := 3) sc_listed.nd rfl (.inl rfl)))
      (rmss_one (rms_set (i := 1) (rm_op of_add (rm_var (pv 1)) (rm_callF c_listed hr (by rfl) (rma_cons (rm_var (pv 3)) rma_nil))) (fun te h W t => ps_set (i := 1) sc_listed.nd rfl (.inl rfl) (h W t))))))))
      (rmss_one (rms_ret (rm_var (pv 1))))))
abbrev s_is_loop : Stmt := topS 17
abbrev N_is_loop : List Str := ["value", "part"]
theorem sc_is_loop : FnScope N_is_loop ["value"] (defScope s_is_loop) := ⟨rfl, rfl, rfl, by decide +kernel, rfl, by decide +kernel, by decide +kernel⟩
theorem ok_is_loop  {k : Nat}  (T : TopD K mg "is_loop" ["value"] s_is_loop) (m_len : mg "len" = none) (c_listed : CallF P w K mg base "listed" 1 k (φ_listed 3)) (g_MOST_STATEMENTS : GI mg "MOST_STATEMENTS" 12) (c_is_body : CallF P w K mg base "is_body" 2 k (φ_is_body 3)) (g_MOST_DEEP : GI mg "MOST_DEEP" 3) (m_all : mg "all" = none) (c_is_number : CallF P w K mg base "is_number" 3 k (φ_is_number)) (g_MOST_TIME : GI mg "MOST_TIME" 8) (m_isinstance : mg "isinstance" = none) (m_tuple : mg "tuple" = none)  :
    CallF P w K mg base "is_loop" 1 (k + 1) (φ_is_loop) := by
  refine call_of (N := N_is_loop) (k := k) T sc_is_loop fun f cdv A outer s H E hr => ⟨_, (pmss_cons (pms_if (pmt_w (pmw_or (pmt_not (pmt_val (pm_callB cd_isi (by rfl) m_isinstance (by decide +kernel) (pma_cons (pm_var (pv 0)) (pma_cons (pm_ty (by rfl) m_tuple boot_tuple) pma_nil))))) (pmw_or1 (pmt_cmp (od_ne (Room.hu64 hr)) (pm_lenK (by rfl) m_len (pk_var (pv 0))) pm_int (nomark _))))) (pmss_one (pms_ret pm_bl)) pmss_nil)
      (pmss_cons (pms_if (pmt_w (pmw_or (pmt_not (pmt_val (pm_callB (cd_all rfl) (by rfl) m_all (by decide +kernel) (pma_cons (pm_lc (own := [("part", 1)]) rfl sc_is_loop.nd (pmi_seq (pm_slice sld (pm_var (pv 0)) (.inl ⟨rfl, rfl⟩) (.inr ⟨_, _, rfl, rfl, pm_int⟩))) (blkOk_by (own := [("part", 1)]) (N := N_is_loop) (sc := defScope s_is_loop) (by decide +kernel)) (fun _ _ _ _ _ => (pmg_of (vs := [1]) (pg_name (i := 1) sc_is_loop.nd rfl (.inl rfl)))) (fun _ _ _ _ _ => pmts_nil) (fun _ _ _ _ _ => (pm_callF c_is_number hr (by rfl) (pma_cons (pm_var (pv 1)) (pma_cons pm_int (pma_cons (pm_gi g_MOST_TIME (by rfl)) pma_nil)))))) pma_nil)))) (pmw_or1 (pmt_cmp od_gt (pm_ixK (Room.hu1 hr) (pk_var (pv 0)) pm_int (fun _ _ => rfl)) (pm_ixK (Room.hu1 hr) (pk_var (pv 0)) pm_int (fun _ _ => rfl)) (nomark _))))) (pmss_one (pms_ret pm_bl)) pmss_nil)
      (pmss_one (pms_ret (pm_and (pm_callF c_is_body hr (by rfl) (pma_cons (pm_ixK (Room.hu1 hr) (pk_var (pv 0)) pm_int (fun _ _ => rfl)) (pma_cons (pm_gi g_MOST_DEEP (by rfl)) pma_nil))) (pm_one (pm_cmp od_le (pm_lenK (by rfl) m_len (pk_of (pm_callF c_listed hr (by rfl) (pma_cons (pm_ixK (Room.hu1 hr) (pk_var (pv 0)) pm_int (fun _ _ => rfl)) pma_nil)))) (pm_gi g_MOST_STATEMENTS (by rfl)) (nomark _)))))))), ?_⟩
  rintro ds Wo Q E' - ⟨v, rfl, hv, q⟩
  have hq : ∀ b, isLoop v = b → Q (.bl b) Wo := fun b h => h ▸ q
  walk_at "pls"
  cases v with
  | tup xs =>
    walk_at "pls"
    have gm := good_tup hv
    by_cases h4 : xs.length = 4
    · match xs, h4 with
      | [a, b, c, s], _ =>
        walk_at "pls"
        refine ite2 (fun z => absurd z (by decide +kernel)) (fun _ => ?_)
        rw [show (3 : Int) = ((3 : Nat) : Int) from rfl, cut_to _ _ (by simp)]
        refine lcW_map (f := fun v => .bl (isNum v 0 8)) _ _ (fun y hy Q' hQ' => ?_) (by show _ ≤ 2 ^ 24; simp) ?_
        · walk_at "pls"
          exact ⟨y, _, _, rfl, good_dat (gm y (List.mem_of_mem_take hy)), hQ' _ rfl⟩
        · walk_at "pls"
          refine ⟨_, [isNum a 0 8, isNum b 0 8, isNum c 0 8], rfl, rfl, ?_⟩
          have f1 : isNum a 0 8 = true → ∃ n, inR 0 8 n = true ∧ a = .int n := isNum_iff.mp
          have f2 : isNum b 0 8 = true → ∃ n, inR 0 8 n = true ∧ b = .int n := isNum_iff.mp
          have f3 : isNum c 0 8 = true → ∃ n, inR 0 8 n = true ∧ c = .int n := isNum_iff.mp
          cases n1 : isNum a 0 8 with
          | false =>
            refine ite2 (fun _ => hq false ?_) (fun z => absurd z (by simp))
            unfold isNum at n1
            unfold isLoop
            split
            · rename_i e
              cases e
              simp only at n1
              simp [inR, n1]
            · rfl
          | true =>
          cases n2 : isNum b 0 8 with
          | false =>
            refine ite2 (fun _ => hq false ?_) (fun z => absurd z (by simp))
            unfold isNum at n2
            unfold isLoop
            split
            · rename_i e
              cases e
              simp only at n2
              simp [inR, n2]
            · rfl
          | true =>
          cases n3 : isNum c 0 8 with
          | false =>
            refine ite2 (fun _ => hq false ?_) (fun z => absurd z (by simp))
            unfold isNum at n3
            unfold isLoop
            split
            · rename_i e
              cases e
              simp only at n3
              simp [inR, n3]
            · rfl
          | true =>
          obtain ⟨a, e1, rfl⟩ := f1 n1
          obtain ⟨b, e2, rfl⟩ := f2 n2
          obtain ⟨c, e3, rfl⟩ := f3 n3
          refine ite2 (fun z => absurd z (by simp)) (fun _ => ?_)
          walk_at "pls"
          refine ite2 (fun z => hq false ?_) (fun z => ?_)
          · simp only [decide_eq_true_eq] at z
            unfold isLoop
            split
            · rename_i e
              cases e
              simp [Int.not_le.mpr z]
            · rfl
          · have z : a ≤ b := by simpa using z
            refine ⟨s, rfl, s, rfl, gm s (by simp), _, rfl, ?_⟩
            refine ite2 (fun z2 => ?_) (fun z2 => hq false ?_)
            · obtain ⟨t, ht, rfl⟩ := isBod_iff.mp z2
              refine ⟨encB t, rfl, t, rfl, ht, ?_⟩
              walk_at "pls"
              refine hq _ ?_
              unfold encB at z2
              rw [Bool.eq_iff_iff]
              simp only [encB, isLoop, e1, e2, e3, z, z2, szD_B ht, List.length_map, Bool.and_self, decide_true, Bool.true_and, decide_eq_true_eq]
              omega
            · unfold isLoop
              split
              · rename_i e
                cases e
                simp [z2]
              · rfl
    · refine ite2 (fun _ => hq false ?_) (fun z => absurd z ?_)
      · unfold isLoop
        split
        · rename_i e; cases e; simp at h4
        · rfl
      · simp; omega
  | dct _ _ => simp [D.good, D.plain] at hv
  | adr _ => simp [D.good, D.plain] at hv
  | ty _ => simp [D.good, D.plain] at hv
  | _ =>
    walk_at "pls"
    exact q
abbrev s_need_loop : Stmt := topS 18
abbrev N_need_loop : List Str := ["value"]
theorem sc_need_loop : FnScope N_need_loop ["value"] (defScope s_need_loop) := ⟨rfl, rfl, rfl, by decide +kernel, rfl, by decide +kernel, by decide +kernel⟩
theorem ok_need_loop  {k : Nat} {C_InvalidLoop : Addr} (T : TopD K mg "need_loop" ["value"] s_need_loop) (c_is_loop : CallF P w K mg base "is_loop" 1 k (φ_is_loop)) (x_InvalidLoop : ExC K mg "InvalidLoop" C_InvalidLoop)  :
    CallF P w K mg base "need_loop" 1 (k + 1) (φ_need_loop C_InvalidLoop) := by
  refine call_of (N := N_need_loop) (k := k) T sc_need_loop fun f cdv A outer s H E hr => ⟨_, (pmss_one (pms_if (pmt_not (pmt_val (pm_callF c_is_loop hr (by rfl) (pma_cons (pm_var (pv 0)) pma_nil)))) (pmss_one (pms_raiseOwn (by rfl) x_InvalidLoop (by rfl))) pmss_nil)), ?_⟩
  rintro ds Wo Q E' - ⟨v, rfl, hv, q1, q2⟩
  walk_at "pls"
  refine ⟨v, rfl, hv, _, rfl, ?_⟩
  cases h : isLoop v with
  | true => exact q1 h
  | false => exact q2 h
abbrev s_is_time : Stmt := topS 19
abbrev N_is_time : List Str := ["loop", "grid", "value"]
theorem sc_is_time : FnScope N_is_time ["loop", "grid", "value"] (defScope s_is_time) := ⟨rfl, rfl, rfl, by decide +kernel, rfl, by decide +kernel, by decide +kernel⟩
theorem ok_is_time  {k : Nat}  (T : TopD K mg "is_time" ["loop", "grid", "value"] s_is_time) (c_is_number : CallF P w K mg base "is_number" 3 k (φ_is_number))  :
    CallF P w K mg base "is_time" 3 (k + 1) (φ_is_time) := by
  refine call_of (N := N_is_time) (k := k) T sc_is_time fun f cdv A outer s H E hr => ⟨_, (pmss_one (pms_ret (pm_callF c_is_number hr (by rfl) (pma_cons (pm_var (pv 2)) (pma_cons (pm_op od_mul (pm_var (pv 1)) (pm_ixK (Room.hu1 hr) (pk_var (pv 0)) pm_int (fun _ _ => rfl))) (pma_cons (pm_op od_mul (pm_var (pv 1)) (pm_ixK (Room.hu1 hr) (pk_var (pv 0)) pm_int (fun _ _ => rfl))) pma_nil)))))), ?_⟩
  rintro ds Wo Q E' - ⟨L, g, v, rfl, hL, hv, q⟩
  obtain ⟨⟨h1, h2, h3, h4, h5⟩, _⟩ := okL_iff.mp hL
  try simp only [encL, ↓pC, ↓pOp, ↓pUn, ↓pSl, ↓pPart, ↓pNil, ↓pCons, ↓pTup, ↓pLst, ↓pCallB, ↓pTest, ↓pNot, ↓pAnd, ↓pOr, ↓pAndV, ↓pOrV, ↓pNotV, ↓pIf, ↓pNext, ↓pSeq, ↓pBreak, ↓pCont, ↓pDrop, ↓pRet, ↓pRetN, ↓pIfS, ↓pgNil, ↓pgCons, ↓pgTup, ↓pAsg, ↓pRaise, ↓pCall, ↓pIter, ↓pFor, ↓pLc, ↓pYes, ↓pkOf, ↓pIxK, ↓pTabG, ↓pLenK, ↓pChain, ↓pStore, ↓pAppend, ↓pPop, ↓poLst, ↓poDct, ↓pNewW, ↓pRng1, ↓pRng2, ↓pTry, ↓pTryAs, ↓oEq, ↓oNe, ↓oLen, ↓oSum, ↓oAll, ↓oAny, ↓oIsi, start0, List.map_cons, List.map_nil, List.length_cons, List.length_nil, List.cons_append, List.nil_append, List.getElem?_cons_zero, List.getElem?_cons_succ, List.set_cons_zero, List.set_cons_succ, List.replicate, D.bl.injEq, D.int.injEq, D.str.injEq, D.tup.injEq, D.lst.injEq, exists_eq_left', exists_eq_left, Option.some.injEq, Bool.false_eq_true, if_true, if_false, true_and, and_true, false_and, and_false, isi_int, isi_bool, isi_str, isi_tuple, isi_list, isiT_int, isiT_bool, isiT_str, isiT_tuple, isiT_list, Bool.not_true, Bool.not_false, dat_non, dat_bl, dat_int, dat_str, dat_tup, dat_lst, isInt_non, isInt_bl, isInt_int, isInt_str, isInt_tup, isInt_lst, isBool_non, isBool_bl, isBool_int, isBool_str, isBool_tup, isBool_lst, isStr_non, isStr_bl, isStr_int, isStr_str, isStr_tup, isStr_lst, isTup_non, isTup_bl, isTup_int, isTup_str, isTup_tup, isTup_lst, isLst_non, isLst_bl, isLst_int, isLst_str, isLst_tup, isLst_lst, Nat.reduceAdd, Nat.zero_add, sz_0, sz_1, sz_2, sz_3, sz_4, sz_5, sz_6, sz_7, sz_8, sz_9, sz_10, sz_11, sz_12, List.any_cons, List.any_nil, eqD_tup, eqD_str, eqD_int, eqDs_cons, eqDs_nil, eqDs_cn, eqDs_nc, Bool.or_false, Bool.and_true, at0, at1, at2, at3, at4, good_int, good_bl, good_nil, good_nilL, good_non, eqDs_nil_r, eqDs_nil_l, List.isEmpty_nil, List.isEmpty_cons, Bool.and_false, Bool.or_true, Bool.false_or, Bool.true_or, Bool.false_and, Bool.true_and, encB, wipS_mk, List.foldr_cons, List.foldr_nil, con_updW, ↓ixC_ownD, ↓oIx_tup, ↓oIx_lst, ↓oIx_str, ↓lenC_ownL, ↓lenC_ownD, ↓setC_ownD, putC_adr, Own_lst_inj, Con_own_inj, updW_upd, Nat.reduceSub, Nat.sub_self, ↓itD_lst, ↓itD_tup, ↓oInt_i, ↓oCmp_i, ↓oAdd_i, ↓oAdd_s, ↓oAdd_t, ↓oAdd_l, ↓oNeg_i, ↓o1I_i, ↓o2I_i, ↓oSl_t, ↓oSl_l, ↓oList_t, ↓oList_l, ↓oTuple_t, ↓oTuple_l, ↓oIn_t, ↓oIn_l, ↓oIsN_n, ↓ixC_ownLi, ↓setC_ownLi, ixN20, ixN21, ex_int1, ex_int2, ↓pSet_eq, ↓ixK_tup, ↓ixK_lst, ↓ixK_str, ↓ixK_dct, ↓lenK_tup, ↓lenK_lst, ↓lenK_str, ↓pSetO_eq, ↓pPar_eq, ↓kPar_mk, ↓pGet2, ↓pFrzO_eq, ↓kFrz_lst, ↓kFrz_dct, ↓pPairs_nil, ↓pPairs_cons, ↓poDisp, ↓getC_val, isDc_val, ↓poCat, ↓catD_l, ↓pVarV0, ↓pVarV1, ↓pVarV2, ↓pVarL0, ↓pVarL1, ↓pVarL2, ↓pVarD0, ↓pVarD1, ↓pVarD2, ↓pkVarV0, ↓pkVarV1, ↓pkVarV2, ↓pkVarO0, ↓pkVarO1, ↓pkVarO2, ↓kSetN0, ↓kSetN1, ↓kSetN2, ↓kSetO_N0, ↓kSetO_N1, ↓kSetO_N2, ↓pgNameN0, ↓pgNameN1, ↓pgNameN2, ↓ixS0, ↓ixS1, ↓ixS2, ↓lenS0, ↓lenS1, ↓lenS2, ↓setS0, ↓setS1, ↓setS2, ↓conS0, ↓conS1, ↓conS2, ↓putS0, ↓putS1, ↓putS2]
  exact ⟨.inr ⟨by omega, by omega⟩, .inr ⟨by omega, by omega⟩, v, _, _, rfl, hv, q⟩
abbrev s_is_good_row : Stmt := topS 20
abbrev N_is_good_row : List Str := ["loop", "value", "time"]
theorem sc_is_good_row : FnScope N_is_good_row ["loop", "value"] (defScope s_is_good_row) := ⟨rfl, rfl, rfl, by decide +kernel, rfl, by decide +kernel, by decide +kernel⟩
theorem ok_is_good_row  {k : Nat}  (T : TopD K mg "is_good_row" ["loop", "value"] s_is_good_row) (m_all : mg "all" = none) (c_is_time : CallF P w K mg base "is_time" 3 k (φ_is_time)) (m_isinstance : mg "isinstance" = none) (m_tuple : mg "tuple" = none) (m_bool : mg "bool" = none) (m_int : mg "int" = none) (m_len : mg "len" = none)  :
    CallF P w K mg base "is_good_row" 2 (k + 1) (φ_is_good_row) := by
  refine call_of (N := N_is_good_row) (k := k) T sc_is_good_row fun f cdv A outer s H E hr => ⟨_, (pmss_cons (pms_if (pmt_w (pmw_or (pmt_not (pmt_val (pm_callB cd_isi (by rfl) m_isinstance (by decide +kernel) (pma_cons (pm_var (pv 1)) (pma_cons (pm_ty (by rfl) m_tuple boot_tuple) pma_nil))))) (pmw_or (pmt_cmp (od_ne (Room.hu64 hr)) (pm_lenK (by rfl) m_len (pk_var (pv 1))) pm_int (nomark _)) (pmw_or1 (pmt_not (pmt_val (pm_callB cd_isi (by rfl) m_isinstance (by decide +kernel) (pma_cons (pm_ixK (Room.hu1 hr) (pk_var (pv 1)) pm_int (fun _ _ => rfl)) (pma_cons (pm_ty (by rfl) m_int boot_int) pma_nil))))))))) (pmss_one (pms_ret pm_bl)) pmss_nil)
      (pmss_cons (pms_if (pmt_w (pmw_or (pmt_val (pm_callB cd_isi (by rfl) m_isinstance (by decide +kernel) (pma_cons (pm_ixK (Room.hu1 hr) (pk_var (pv 1)) pm_int (fun _ _ => rfl)) (pma_cons (pm_ty (by rfl) m_bool boot_bool) pma_nil)))) (pmw_or1 (pmt_cmp od_lt (pm_ixK (Room.hu1 hr) (pk_var (pv 1)) pm_int (fun _ _ => rfl)) pm_int (nomark _))))) (pmss_one (pms_ret pm_bl)) pmss_nil)
      (pmss_one (pms_ret (pm_and (pm_callB cd_isi (by rfl) m_isinstance (by decide +kernel) (pma_cons (pm_ixK (Room.hu1 hr) (pk_var (pv 1)) pm_int (fun _ _ => rfl)) (pma_cons (pm_ty (by rfl) m_tuple boot_tuple) pma_nil))) (pm_one (pm_callB (cd_all rfl) (by rfl) m_all (by decide +kernel) (pma_cons (pm_lc (own := [("time", 2)]) rfl sc_is_good_row.nd (pmi_seq (pm_ixK (Room.hu1 hr) (pk_var (pv 1)) pm_int (fun _ _ => rfl))) (blkOk_by (own := [("time", 2)]) (N := N_is_good_row) (sc := defScope s_is_good_row) (by decide +kernel)) (fun _ _ _ _ _ => (pmg_of (vs := [2]) (pg_name (i := 2) sc_is_good_row.nd rfl (.inl rfl)))) (fun _ _ _ _ _ => pmts_nil) (fun _ _ _ _ _ => (pm_callF c_is_time hr (by rfl) (pma_cons (pm_var (pv 0)) (pma_cons (pm_ixK (Room.hu1 hr) (pk_var (pv 1)) pm_int (fun _ _ => rfl)) (pma_cons (pm_var (pv 2)) pma_nil)))))) pma_nil)))))))), ?_⟩
  rintro ds Wo Q E' - ⟨L, v, rfl, hL, hv, hs, q⟩
  have hq : ∀ b, isRow L v = b → Q (.bl b) Wo := fun b h => h ▸ q
  walk_at "pls"
  cases v with
  | tup xs =>
    walk_at "pls"
    have gm := good_tup hv
    by_cases h2 : xs.length = 2
    · match xs, h2 with
      | [g, ts], _ =>
        walk_at "pls"
        refine ite2 (fun z => absurd z (by decide +kernel)) (fun _ => ?_)
        have gg := gm g (by simp)
        have gt := gm ts (by simp)
        refine ⟨good_dat gg, ?_⟩
        cases g with
        | int g =>
          walk_at "pls"
          refine ite2 (fun z => hq false ?_) (fun z => ?_)
          · have z : ¬ 1 ≤ g := by have := of_decide_eq_true z; omega
            unfold isRow
            split
            · rename_i e; cases e; simp [z]
            · rfl
          · have z : 1 ≤ g := by simp only [decide_eq_true_eq] at z; omega
            refine ⟨good_dat gt, ?_⟩
            cases ts with
            | tup ts =>
              walk_at "pls"
              have hl := hs _ _ rfl
              refine lcW_map (f := fun v => .bl (isNum v (g * L.least) (g * L.most))) _ _ (fun y hy Q' hQ' => ?_) (by show _ ≤ 2 ^ 24; simp only [List.length_nil]; omega) ?_
              · walk_at "pls"
                exact ⟨L, g, y, rfl, hL, good_dat (good_tup gt y hy), hQ' _ rfl⟩
              · refine ⟨_, ts.map (fun v => isNum v (g * L.least) (g * L.most)), rfl, ?_, hq _ ?_⟩
                · rw [← bls_map (ts.map _), List.nil_append, List.map_map]; rfl
                · simp only [isRow, z, decide_true, Bool.true_and, List.all_map]; rfl
            | dct _ _ => simp [D.good, D.plain] at gt
            | adr _ => simp [D.good, D.plain] at gt
            | ty _ => simp [D.good, D.plain] at gt
            | _ =>
              walk_at "pls"
              exact hq false rfl
        | bl b =>
          walk_at "pls"
          first | exact ⟨rfl, hq false rfl⟩ | exact hq false rfl
        | dct _ _ => simp [D.good, D.plain] at gg
        | adr _ => simp [D.good, D.plain] at gg
        | ty _ => simp [D.good, D.plain] at gg
        | _ =>
          walk_at "pls"
          exact hq false rfl
    · refine ite2 (fun _ => hq false ?_) (fun z => absurd z ?_)
      · unfold isRow
        split
        · rename_i e; cases e; simp at h2
        · rfl
      · simp; omega
  | dct _ _ => simp [D.good, D.plain] at hv
  | adr _ => simp [D.good, D.plain] at hv
  | ty _ => simp [D.good, D.plain] at hv
  | _ =>
    walk_at "pls"
    exact q
abbrev s_need_row : Stmt := topS 21
abbrev N_need_row : List Str := ["loop", "value"]
theorem sc_need_row : FnScope N_need_row ["loop", "value"] (defScope s_need_row) := ⟨rfl, rfl, rfl, by decide +kernel, rfl, by decide +kernel, by decide +kernel⟩
theorem ok_need_row {C_InvalidLoop : Addr} {k : Nat} {C_InvalidRow : Addr} (T : TopD K mg "need_row" ["loop", "value"] s_need_row) (c_is_good_row : CallF P w K mg base "is_good_row" 2 k (φ_is_good_row)) (x_InvalidRow : ExC K mg "InvalidRow" C_InvalidRow) (c_need_loop : CallF P w K mg base "need_loop" 1 k (φ_need_loop C_InvalidLoop))  :
    CallF P w K mg base "need_row" 2 (k + 1) (φ_need_row C_InvalidLoop C_InvalidRow) := by
  refine call_of (N := N_need_row) (k := k) T sc_need_row fun f cdv A outer s H E hr => ⟨_, (pmss_cons (pms_expr (pm_callF c_need_loop hr (by rfl) (pma_cons (pm_var (pv 0)) pma_nil)))
      (pmss_one (pms_if (pmt_not (pmt_val (pm_callF c_is_good_row hr (by rfl) (pma_cons (pm_var (pv 0)) (pma_cons (pm_var (pv 1)) pma_nil))))) (pmss_one (pms_raiseOwn (by rfl) x_InvalidRow (by rfl))) pmss_nil))), ?_⟩
  rintro ds Wo Q E' - ⟨l, v, rfl, hl, hv, hs, q2, q1⟩
  walk_at "pls"
  refine ⟨l, rfl, hl, fun h => ?_, q2⟩
  obtain ⟨L, hL, rfl, q3, q4⟩ := q1 h
  refine ⟨L, v, rfl, hL, hv, hs, _, rfl, ?_⟩
  cases h : isRow L v with
  | true => exact q3 h
  | false => exact q4 h
abbrev s_begun : Stmt := topS 23
abbrev N_begun : List Str := ["loop", "grid"]
theorem sc_begun : FnScope N_begun ["loop", "grid"] (defScope s_begun) := ⟨rfl, rfl, rfl, by decide +kernel, rfl, by decide +kernel, by decide +kernel⟩
theorem okr_begun {k : Nat} (T : TopD K mg "begun" ["loop", "grid"] s_begun)  :
    CallF P w K mg base "begun" 2 (k + 1) (φR (runD 2 (r_begun))) :=
  callR_of (N := N_begun) (k := k) T sc_begun fun f cdv A outer s H E hr => (rmss_one (rms_ret (rm_tup (rma_cons rm_int (rma_cons (rm_op rf_mul (rm_un uf_neg (rm_var (pv 1))) (rm_ixK (Room.hu1 hr) (rk_var (pv 0)) rm_int (fun _ _ => rfl))) (rma_cons rm_bl rma_nil))))))
abbrev s_holds : Stmt := topS 24
abbrev N_holds : List Str := ["test", "late", "flag", "grid"]
theorem sc_holds : FnScope N_holds ["test", "late", "flag", "grid"] (defScope s_holds) := ⟨rfl, rfl, rfl, by decide +kernel, rfl, by decide +kernel, by decide +kernel⟩
theorem okr_holds {k : Nat} (T : TopD K mg "holds" ["test", "late", "flag", "grid"] s_holds)  :
    CallF P w K mg base "holds" 4 (k + 1) (φR (runD 4 (r_holds))) :=
  callR_of (N := N_holds) (k := k) T sc_holds fun f cdv A outer s H E hr => (rmss_cons (rms_if (rmt_cmp (of_eq (Room.hu64 hr)) (rm_ixK (Room.hu1 hr) (rk_var (pv 0)) rm_int (fun _ _ => rfl)) rm_str (nomark _)) (rmss_one (rms_ret (rm_var (pv 2)))) rmss_nil)
      (rmss_one (rms_ret (rm_ifExp (rmt_cmp (of_eq (Room.hu64 hr)) (rm_ixK (Room.hu1 hr) (rk_var (pv 0)) rm_int (fun _ _ => rfl)) rm_str (nomark _)) (rm_cmp rf_ge (rm_var (pv 1)) rm_int (nomark _)) (rm_cmp rf_gt (rm_var (pv 1)) (rm_op rf_mul (rm_var (pv 3)) (rm_ixK (Room.hu1 hr) (rk_var (pv 0)) rm_int (fun _ _ => rfl))) (nomark _))))))
abbrev s_waited : Stmt := topS 25
abbrev N_waited : List Str := ["statement", "gone", "late", "grid"]
theorem sc_waited : FnScope N_waited ["statement", "gone", "late", "grid"] (defScope s_waited) := ⟨rfl, rfl, rfl, by decide +kernel, rfl, by decide +kernel, by decide +kernel⟩
theorem okr_waited {k : Nat} (T : TopD K mg "waited" ["statement", "gone", "late", "grid"] s_waited) (m_max : mg "max" = none) :
    CallF P w K mg base "waited" 4 (k + 1) (φR (runD 4 (r_waited))) :=
  callR_of (N := N_waited) (k := k) T sc_waited fun f cdv A outer s H E hr => (rmss_cons (rms_if (rmt_cmp (of_eq (Room.hu64 hr)) (rm_ixK (Room.hu1 hr) (rk_var (pv 0)) rm_int (fun _ _ => rfl)) rm_str (nomark _)) (rmss_one (rms_ret (rm_op rf_mul (rm_var (pv 3)) (rm_ixK (Room.hu1 hr) (rk_var (pv 0)) rm_int (fun _ _ => rfl))))) rmss_nil)
      (rmss_cons (rms_if (rmt_cmp (of_eq (Room.hu64 hr)) (rm_ixK (Room.hu1 hr) (rk_var (pv 0)) rm_int (fun _ _ => rfl)) rm_str (nomark _)) (rmss_one (rms_ret (rm_callB (rf_max2 rfl) (by rfl) m_max (by decide +kernel) (rma_cons rm_int (rma_cons (rm_un uf_neg (rm_var (pv 2))) rma_nil))))) rmss_nil)
      (rmss_one (rms_ret (rm_ifExp (rmt_cmp (of_eq (Room.hu64 hr)) (rm_ixK (Room.hu1 hr) (rk_var (pv 0)) rm_int (fun _ _ => rfl)) rm_str (nomark _)) (rm_callB (rf_max2 rfl) (by rfl) m_max (by decide +kernel) (rma_cons rm_int (rma_cons (rm_op rf_sub (rm_op rf_mul (rm_var (pv 3)) (rm_ixK (Room.hu1 hr) (rk_var (pv 0)) rm_int (fun _ _ => rfl))) (rm_var (pv 1))) rma_nil))) rm_int)))))
abbrev s_marked : Stmt := topS 26
abbrev N_marked : List Str := ["statement", "late", "grid"]
theorem sc_marked : FnScope N_marked ["statement", "late", "grid"] (defScope s_marked) := ⟨rfl, rfl, rfl, by decide +kernel, rfl, by decide +kernel, by decide +kernel⟩
theorem okr_marked {k : Nat} (T : TopD K mg "marked" ["statement", "late", "grid"] s_marked)  :
    CallF P w K mg base "marked" 3 (k + 1) (φR (runD 3 (r_marked))) :=
  callR_of (N := N_marked) (k := k) T sc_marked fun f cdv A outer s H E hr => (rmss_cons (rms_if (rmt_cmp (of_eq (Room.hu64 hr)) (rm_ixK (Room.hu1 hr) (rk_var (pv 0)) rm_int (fun _ _ => rfl)) rm_str (nomark _)) (rmss_one (rms_ret (rm_op rf_mul (rm_un uf_neg (rm_var (pv 2))) (rm_ixK (Room.hu1 hr) (rk_var (pv 0)) rm_int (fun _ _ => rfl))))) rmss_nil)
      (rmss_cons (rms_if (rmt_cmp (of_eq (Room.hu64 hr)) (rm_ixK (Room.hu1 hr) (rk_var (pv 0)) rm_int (fun _ _ => rfl)) rm_str (nomark _)) (rmss_one (rms_ret (rm_op rf_sub (rm_var (pv 1)) (rm_op rf_mul (rm_var (pv 2)) (rm_ixK (Room.hu1 hr) (rk_var (pv 0)) rm_int (fun _ _ => rfl)))))) rmss_nil)
      (rmss_cons (rms_if (rmt_w (rmw_and (rmt_cmp (of_eq (Room.hu64 hr)) (rm_ixK (Room.hu1 hr) (rk_var (pv 0)) rm_int (fun _ _ => rfl)) rm_str (nomark _)) (rmw_and1 (rmt_cmp rf_ge (rm_var (pv 1)) rm_int (nomark _))))) (rmss_one (rms_ret (rm_op rf_sub (rm_var (pv 1)) (rm_op rf_mul (rm_op rf_mul (rm_var (pv 2)) (rm_ixK (Room.hu1 hr) (rk_var (pv 0)) rm_int (fun _ _ => rfl))) (rm_op of_add (rm_op rf_fdiv (rm_var (pv 1)) (rm_op rf_mul (rm_var (pv 2)) (rm_ixK (Room.hu1 hr) (rk_var (pv 0)) rm_int (fun _ _ => rfl)))) rm_int))))) rmss_nil)
      (rmss_one (rms_ret (rm_var (pv 1)))))))
abbrev s_body_done : Stmt := topS 27
abbrev N_body_done : List Str := ["body", "first", "now", "grid", "gone", "late", "flag", "numbers", "statement", "hit", "inner", "more"]
theorem sc_body_done : FnScope N_body_done ["body", "first", "now", "grid"] (defScope s_body_done) := ⟨rfl, rfl, rfl, by decide +kernel, rfl, by decide +kernel, by decide +kernel⟩
theorem okr_body_done {F_bodies_of : RFn} {F_listed : RFn} {F_body_done : RFn} {F_holds : RFn} {F_marked : RFn} {F_waited : RFn} {k : Nat} (T : TopD K mg "body_done" ["body", "first", "now", "grid"] s_body_done) (c_bodies_of : CallF P w K mg base "bodies_of" 1 k (φR F_bodies_of)) (c_listed : CallF P w K mg base "listed" 1 k (φR F_listed)) (m_len : mg "len" = none) (m_sum : mg "sum" = none) (c_body_done : CallF P w K mg base "body_done" 4 k (φR F_body_done)) (c_holds : CallF P w K mg base "holds" 4 k (φR F_holds)) (c_marked : CallF P w K mg base "marked" 3 k (φR F_marked)) (c_waited : CallF P w K mg base "waited" 4 k (φR F_waited)) :
    CallF P w K mg base "body_done" 4 (k + 1) (φR (runD 12 (r_body_done F_bodies_of F_listed F_body_done F_holds F_marked F_waited))) :=
  callR_of (N := N_body_done) (k := k) T sc_body_done fun f cdv A outer s H E hr => (rmss_cons (rms_asg (rm_var (pv 2)) (rmg_tup rfl (rmgs_cons (rmg_of (vs := [4, 5, 6, 7]) (pg_name (i := 4) sc_body_done.nd rfl (.inl rfl))) (rmgs_cons (rmg_of (vs := [4, 5, 6, 7]) (pg_name (i := 5) sc_body_done.nd rfl (.inl rfl))) (rmgs_cons (rmg_of (vs := [4, 5, 6, 7]) (pg_name (i := 6) sc_body_done.nd rfl (.inl rfl))) (rmgs_cons (rmg_of (vs := [4, 5, 6, 7]) (pg_name (i := 7) sc_body_done.nd rfl (.inl rfl))) rmgs_nil))))))
      (rmss_cons (rms_for (passes_of rfl) rfl (rmi_seq (rm_var (pv 0))) (rmg_of (vs := [8]) (pg_name (i := 8) sc_body_done.nd rfl (.inl rfl)))
      (rmss_cons (rms_set (i := 7) (rm_op of_add (rm_var (pv 7)) (rm_tup (rma_cons (rm_var (pv 1)) rma_nil))) (fun te h W t => ps_set (i := 7) sc_body_done.nd rfl (.inl rfl) (h W t)))
      (rmss_cons (rms_if (rmt_cmp (of_eq (Room.hu64 hr)) (rm_ixK (Room.hu1 hr) (rk_var (pv 8)) rm_int (fun _ _ => rfl)) rm_str (nomark _)) (rmss_cons (rms_set (i := 9) (rm_callF c_holds hr (by rfl) (rma_cons (rm_ixK (Room.hu1 hr) (rk_var (pv 8)) rm_int (fun _ _ => rfl)) (rma_cons (rm_var (pv 5)) (rma_cons (rm_var (pv 6)) (rma_cons (rm_var (pv 3)) rma_nil))))) (fun te h W t => ps_set (i := 9) sc_body_done.nd rfl (.inl rfl) (h W t)))
      (rmss_cons (rms_set (i := 10) (rm_op of_add (rm_op of_add (rm_var (pv 1)) rm_int) (rm_ifExp (rmt_val (rm_var (pv 9))) rm_int (rm_lenK (by rfl) m_len (rk_of (rm_callF c_listed hr (by rfl) (rma_cons (rm_ixK (Room.hu1 hr) (rk_var (pv 8)) rm_int (fun _ _ => rfl)) rma_nil)))))) (fun te h W t => ps_set (i := 10) sc_body_done.nd rfl (.inl rfl) (h W t)))
      (rmss_cons (rms_set (i := 2) (rm_callF c_body_done hr (by rfl) (rma_cons (rm_ixK (Room.hu1 hr) (rk_var (pv 8)) (rm_ifExp (rmt_val (rm_var (pv 9))) rm_int rm_int) (fun _ _ => rfl)) (rma_cons (rm_var (pv 10)) (rma_cons (rm_tup (rma_cons (rm_var (pv 4)) (rma_cons (rm_var (pv 5)) (rma_cons (rm_var (pv 6)) (rma_cons (rm_var (pv 7)) rma_nil))))) (rma_cons (rm_var (pv 3)) rma_nil))))) (fun te h W t => ps_set (i := 2) sc_body_done.nd rfl (.inl rfl) (h W t)))
      (rmss_one (rms_asg (rm_var (pv 2)) (rmg_tup rfl (rmgs_cons (rmg_of (vs := [4, 5, 6, 7]) (pg_name (i := 4) sc_body_done.nd rfl (.inl rfl))) (rmgs_cons (rmg_of (vs := [4, 5, 6, 7]) (pg_name (i := 5) sc_body_done.nd rfl (.inl rfl))) (rmgs_cons (rmg_of (vs := [4, 5, 6, 7]) (pg_name (i := 6) sc_body_done.nd rfl (.inl rfl))) (rmgs_cons (rmg_of (vs := [4, 5, 6, 7]) (pg_name (i := 7) sc_body_done.nd rfl (.inl rfl))) rmgs_nil)))))))))) (rmss_one (rms_if (rmt_cmp (of_in (Room.hu65 hr)) (rm_ixK (Room.hu1 hr) (rk_var (pv 8)) rm_int (fun _ _ => rfl)) (rm_tup (rma_cons rm_str (rma_cons rm_str rma_nil))) (by rfl)) (rmss_one (rms_set (i := 6) (rm_cmp (of_eq (Room.hu64 hr)) (rm_ixK (Room.hu1 hr) (rk_var (pv 8)) rm_int (fun _ _ => rfl)) rm_str (nomark _)) (fun te h W t => ps_set (i := 6) sc_body_done.nd rfl (.inl rfl) (h W t)))) (rmss_cons (rms_set (i := 11) (rm_callF c_waited hr (by rfl) (rma_cons (rm_var (pv 8)) (rma_cons (rm_var (pv 4)) (rma_cons (rm_var (pv 5)) (rma_cons (rm_var (pv 3)) rma_nil))))) (fun te h W t => ps_set (i := 11) sc_body_done.nd rfl (.inl rfl) (h W t)))
      (rmss_one (rms_par (i := 4) (j := 5) (rma_cons (rm_op of_add (rm_var (pv 4)) (rm_var (pv 11))) (rma_cons (rm_callF c_marked hr (by rfl) (rma_cons (rm_var (pv 8)) (rma_cons (rm_op of_add (rm_var (pv 5)) (rm_var (pv 11))) (rma_cons (rm_var (pv 3)) rma_nil)))) rma_nil)) (fun te h W t => ps_par (i := 4) (j := 5) rfl sc_body_done.nd rfl rfl (by decide) rfl rfl (h W t) (by rfl))))))))
      (rmss_one (rms_set (i := 1) (rm_op of_add (rm_op of_add (rm_var (pv 1)) rm_int) (rm_callB (cf_sum rfl) (by rfl) m_sum (by decide +kernel) (rma_cons (rm_lc (own := [("inner", 10)]) rfl sc_body_done.nd (rmi_seq (rm_callF c_bodies_of hr (by rfl) (rma_cons (rm_var (pv 8)) rma_nil))) (blkOk_by (own := [("inner", 10)]) (N := N_body_done) (sc := defScope s_body_done) (by decide +kernel)) (fun _ _ _ _ _ => (rmg_of (vs := [10]) (pg_name (i := 10) sc_body_done.nd rfl (.inl rfl)))) (fun _ _ _ _ _ => rmts_nil) (fun _ _ _ _ _ => (rm_lenK (by rfl) m_len (rk_of (rm_callF c_listed hr (by rfl) (rma_cons (rm_var (pv 10)) rma_nil)))))) rma_nil))) (fun te h W t => ps_set (i := 1) sc_body_done.nd rfl (.inl rfl) (h W t)))))))
      (rmss_one (rms_ret (rm_tup (rma_cons (rm_var (pv 4)) (rma_cons (rm_var (pv 5)) (rma_cons (rm_var (pv 6)) (rma_cons (rm_var (pv 7)) rma_nil)))))))))
abbrev s_round_done : Stmt := topS 28
abbrev N_round_done : List Str := ["loop", "state", "time", "grid", "moment", "late", "flag", "gone", "numbers"]
theorem sc_round_done : FnScope N_round_done ["loop", "state", "time", "grid"] (defScope s_round_done) := ⟨rfl, rfl, rfl, by decide +kernel, rfl, by decide +kernel, by decide +kernel⟩
theorem okr_round_done {F_body_done : RFn} {k : Nat} (T : TopD K mg "round_done" ["loop", "state", "time", "grid"] s_round_done) (c_body_done : CallF P w K mg base "body_done" 4 k (φR F_body_done)) :
    CallF P w K mg base "round_done" 4 (k + 1) (φR (runD 9 (r_round_done F_body_done))) :=
  callR_of (N := N_round_done) (k := k) T sc_round_done fun f cdv A outer s H E hr => (rmss_cons (rms_asg (rm_var (pv 1)) (rmg_tup rfl (rmgs_cons (rmg_of (vs := [4, 5, 6]) (pg_name (i := 4) sc_round_done.nd rfl (.inl rfl))) (rmgs_cons (rmg_of (vs := [4, 5, 6]) (pg_name (i := 5) sc_round_done.nd rfl (.inl rfl))) (rmgs_cons (rmg_of (vs := [4, 5, 6]) (pg_name (i := 6) sc_round_done.nd rfl (.inl rfl))) rmgs_nil)))))
      (rmss_cons (rms_asg (rm_callF c_body_done hr (by rfl) (rma_cons (rm_ixK (Room.hu1 hr) (rk_var (pv 0)) rm_int (fun _ _ => rfl)) (rma_cons rm_int (rma_cons (rm_tup (rma_cons (rm_var (pv 2)) (rma_cons (rm_op of_add (rm_var (pv 5)) (rm_var (pv 2))) (rma_cons (rm_var (pv 6)) (rma_cons (rm_tup rma_nil) rma_nil))))) (rma_cons (rm_var (pv 3)) rma_nil))))) (rmg_tup rfl (rmgs_cons (rmg_of (vs := [7, 5, 6, 8]) (pg_name (i := 7) sc_round_done.nd rfl (.inl rfl))) (rmgs_cons (rmg_of (vs := [7, 5, 6, 8]) (pg_name (i := 5) sc_round_done.nd rfl (.inl rfl))) (rmgs_cons (rmg_of (vs := [7, 5, 6, 8]) (pg_name (i := 6) sc_round_done.nd rfl (.inl rfl))) (rmgs_cons (rmg_of (vs := [7, 5, 6, 8]) (pg_name (i := 8) sc_round_done.nd rfl (.inl rfl))) rmgs_nil))))))
      (rmss_one (rms_ret (rm_tup (rma_cons (rm_tup (rma_cons (rm_op of_add (rm_var (pv 4)) (rm_var (pv 7))) (rma_cons (rm_var (pv 5)) (rma_cons (rm_var (pv 6)) rma_nil)))) (rma_cons (rm_var (pv 8)) rma_nil)))))))
abbrev s_states_of : Stmt := topS 29
abbrev N_states_of : List Str := ["loop", "row", "state", "found", "known", "time", "numbers", "number"]
theorem sc_states_of : FnScope N_states_of ["loop", "row"] (defScope s_states_of) := ⟨rfl, rfl, rfl, by decide +kernel, rfl, by decide +kernel, by decide +kernel⟩
theorem okr_states_of {F_round_done : RFn} {F_begun : RFn} {k : Nat} (T : TopD K mg "states_of" ["loop", "row"] s_states_of) (c_round_done : CallF P w K mg base "round_done" 4 k (φR F_round_done)) (c_begun : CallF P w K mg base "begun" 2 k (φR F_begun)) :
    CallF P w K mg base "states_of" 2 (k + 1) (φR (runD 8 (r_states_of F_round_done F_begun))) :=
  callR_of (N := N_states_of) (k := k) T sc_states_of fun f cdv A outer s H E hr => (rmss_cons (rms_set (i := 2) (rm_callF c_begun hr (by rfl) (rma_cons (rm_var (pv 0)) (rma_cons (rm_ixK (Room.hu1 hr) (rk_var (pv 1)) rm_int (fun _ _ => rfl)) rma_nil))) (fun te h W t => ps_set (i := 2) sc_states_of.nd rfl (.inl rfl) (h W t)))
      (rmss_cons (rms_parX2 (i := 3) (j := 4) (rmx_val (rm_lst (rma_cons (rm_var (pv 2)) rma_nil)) (rmx_own rmo_dct rmx_nil)) (fun te h => ps_par (i := 3) (j := 4) rfl sc_states_of.nd rfl rfl (by decide) rfl rfl h (by rfl)))
      (rmss_cons (rms_for (passes_of rfl) rfl (rmi_seq (rm_ixK (Room.hu1 hr) (rk_var (pv 1)) rm_int (fun _ _ => rfl))) (rmg_of (vs := [5]) (pg_name (i := 5) sc_states_of.nd rfl (.inl rfl)))
      (rmss_cons (rms_asg (rm_callF c_round_done hr (by rfl) (rma_cons (rm_var (pv 0)) (rma_cons (rm_var (pv 2)) (rma_cons (rm_var (pv 5)) (rma_cons (rm_ixK (Room.hu1 hr) (rk_var (pv 1)) rm_int (fun _ _ => rfl)) rma_nil))))) (rmg_tup rfl (rmgs_cons (rmg_of (vs := [2, 6]) (pg_name (i := 2) sc_states_of.nd rfl (.inl rfl))) (rmgs_cons (rmg_of (vs := [2, 6]) (pg_name (i := 6) sc_states_of.nd rfl (.inl rfl))) rmgs_nil))))
      (rmss_cons (rms_set (i := 3) (rm_op of_add (rm_var (pv 3)) (rm_lst (rma_cons (rm_var (pv 2)) rma_nil))) (fun te h W t => ps_set (i := 3) sc_states_of.nd rfl (.inl rfl) (h W t)))
      (rmss_one (rms_for (passes_of rfl) rfl (rmi_seq (rm_var (pv 6))) (rmg_of (vs := [7]) (pg_name (i := 7) sc_states_of.nd rfl (.inl rfl)))
      (rmss_one (rms_store rm_bl (rk_var (pv 4)) (rm_var (pv 7)) (fun tv tk ti hv hk hi W t => ps_asg (hv W t) (pg_sub (hk W t) (hi W t) (set_any (Room.hu1 hr)))))))))))
      (rmss_one (rms_ret (rm_tup (rma_cons (rm_var (pv 3)) (rma_cons (rm_var (pv 4)) rma_nil))))))))
abbrev s_moments : Stmt := topS 30
abbrev N_moments : List Str := ["loop", "row", "state"]
theorem sc_moments : FnScope N_moments ["loop", "row"] (defScope s_moments) := ⟨rfl, rfl, rfl, by decide +kernel, rfl, by decide +kernel, by decide +kernel⟩
theorem okr_moments {F_states_of : RFn} {k : Nat} (T : TopD K mg "moments" ["loop", "row"] s_moments) (c_states_of : CallF P w K mg base "states_of" 2 k (φR F_states_of)) :
    CallF P w K mg base "moments" 2 (k + 1) (φR (runD 3 (r_moments F_states_of))) :=
  callR_of (N := N_moments) (k := k) T sc_moments fun f cdv A outer s H E hr => (rmss_one (rms_ret (rm_lc (own := [("state", 2)]) rfl sc_moments.nd (rmi_seq (rm_ixK (Room.hu1 hr) (rk_of (rm_callF c_states_of hr (by rfl) (rma_cons (rm_var (pv 0)) (rma_cons (rm_var (pv 1)) rma_nil)))) rm_int (fun _ _ => rfl))) (blkOk_by (own := [("state", 2)]) (N := N_moments) (sc := defScope s_moments) (by decide +kernel)) (fun _ _ _ _ _ => (rmg_of (vs := [2]) (pg_name (i := 2) sc_moments.nd rfl (.inl rfl)))) (fun _ _ _ _ _ => rmts_nil) (fun _ _ _ _ _ => (rm_ixK (Room.hu1 hr) (rk_var (pv 2)) rm_int (fun _ _ => rfl))))))
abbrev s_starts : Stmt := topS 31
abbrev N_starts : List Str := ["loop", "row"]
theorem sc_starts : FnScope N_starts ["loop", "row"] (defScope s_starts) := ⟨rfl, rfl, rfl, by decide +kernel, rfl, by decide +kernel, by decide +kernel⟩
theorem okr_starts {F_moments : RFn} {F_need_row : RFn} {k : Nat} (T : TopD K mg "starts" ["loop", "row"] s_starts) (c_moments : CallF P w K mg base "moments" 2 k (φR F_moments)) (c_need_row : CallF P w K mg base "need_row" 2 k (φR F_need_row)) :
    CallF P w K mg base "starts" 2 (k + 1) (φR (runD 2 (r_starts F_moments F_need_row))) :=
  callR_of (N := N_starts) (k := k) T sc_starts fun f cdv A outer s H E hr => (rmss_cons (rms_expr (rm_callF c_need_row hr (by rfl) (rma_cons (rm_var (pv 0)) (rma_cons (rm_var (pv 1)) rma_nil))))
      (rmss_one (rms_ret (rm_callF c_moments hr (by rfl) (rma_cons (rm_var (pv 0)) (rma_cons (rm_var (pv 1)) rma_nil))))))
abbrev s_latenesses : Stmt := topS 32
abbrev N_latenesses : List Str := ["loop", "row", "state"]
theorem sc_latenesses : FnScope N_latenesses ["loop", "row"] (defScope s_latenesses) := ⟨rfl, rfl, rfl, by decide +kernel, rfl, by decide +kernel, by decide +kernel⟩
theorem okr_latenesses {F_states_of : RFn} {F_need_row : RFn} {k : Nat} (T : TopD K mg "latenesses" ["loop", "row"] s_latenesses) (c_states_of : CallF P w K mg base "states_of" 2 k (φR F_states_of)) (c_need_row : CallF P w K mg base "need_row" 2 k (φR F_need_row)) :
    CallF P w K mg base "latenesses" 2 (k + 1) (φR (runD 3 (r_latenesses F_states_of F_need_row))) :=
  callR_of (N := N_latenesses) (k := k) T sc_latenesses fun f cdv A outer s H E hr => (rmss_cons (rms_expr (rm_callF c_need_row hr (by rfl) (rma_cons (rm_var (pv 0)) (rma_cons (rm_var (pv 1)) rma_nil))))
      (rmss_one (rms_ret (rm_lc (own := [("state", 2)]) rfl sc_latenesses.nd (rmi_seq (rm_ixK (Room.hu1 hr) (rk_of (rm_callF c_states_of hr (by rfl) (rma_cons (rm_var (pv 0)) (rma_cons (rm_var (pv 1)) rma_nil)))) rm_int (fun _ _ => rfl))) (blkOk_by (own := [("state", 2)]) (N := N_latenesses) (sc := defScope s_latenesses) (by decide +kernel)) (fun _ _ _ _ _ => (rmg_of (vs := [2]) (pg_name (i := 2) sc_latenesses.nd rfl (.inl rfl)))) (fun _ _ _ _ _ => rmts_nil) (fun _ _ _ _ _ => (rm_ixK (Room.hu1 hr) (rk_var (pv 2)) rm_int (fun _ _ => rfl)))))))
abbrev s_done : Stmt := topS 33
abbrev N_done : List Str := ["loop", "row"]
theorem sc_done : FnScope N_done ["loop", "row"] (defScope s_done) := ⟨rfl, rfl, rfl, by decide +kernel, rfl, by decide +kernel, by decide +kernel⟩
theorem okr_done {F_states_of : RFn} {F_need_row : RFn} {k : Nat} (T : TopD K mg "done" ["loop", "row"] s_done) (c_states_of : CallF P w K mg base "states_of" 2 k (φR F_states_of)) (m_list : mg "list" = none) (m_sorted : mg "sorted" = none) (c_need_row : CallF P w K mg base "need_row" 2 k (φR F_need_row)) :
    CallF P w K mg base "done" 2 (k + 1) (φR (runD 2 (r_done F_states_of F_need_row))) :=
  callR_of (N := N_done) (k := k) T sc_done fun f cdv A outer s H E hr => (rmss_cons (rms_expr (rm_callF c_need_row hr (by rfl) (rma_cons (rm_var (pv 0)) (rma_cons (rm_var (pv 1)) rma_nil))))
      (rmss_one (rms_ret (rm_callB cf_sorted (by rfl) m_sorted (by decide +kernel) (rma_cons (rm_callTy (cf_listA rfl) (by rfl) m_list boot_list (rma_cons (rm_ixK (Room.hu1 hr) (rk_of (rm_callF c_states_of hr (by rfl) (rma_cons (rm_var (pv 0)) (rma_cons (rm_var (pv 1)) rma_nil)))) rm_int (fun _ _ => rfl)) rma_nil)) rma_nil)))))
abbrev s__law_source : Stmt := topS 35
abbrev N__law_source : List Str := ["script", "k", "cell"]
theorem sc__law_source : FnScope N__law_source ["script", "k"] (defScope s__law_source) := ⟨rfl, rfl, rfl, by decide +kernel, rfl, by decide +kernel, by decide +kernel⟩
theorem ok__law_source  {k : Nat}  (T : TopD K mg "_law_source" ["script", "k"] s__law_source) (m_int : mg "int" = none) (m_len : mg "len" = none) (m_abs : mg "abs" = none)  :
    CallF P w K mg base "_law_source" 2 (k + 1) (φ__law_source) := by
  refine call_of (N := N__law_source) (k := k) T sc__law_source fun f cdv A outer s H E hr => ⟨_, (pmss_cons (pms_set (i := 2) (fun W t => ps_set (i := 2) sc__law_source.nd rfl (.inl rfl) (pm_int W t)))
      (pmss_cons (pms_if (pmt_cmp od_lt (pm_var (pv 1)) (pm_lenK (by rfl) m_len (pk_var (pv 0))) (nomark _)) (pmss_one (pms_set (i := 2) (fun W t => ps_set (i := 2) sc__law_source.nd rfl (.inl rfl) ((pm_callB cd_abs (by rfl) m_abs (by decide +kernel) (pma_cons (pm_callTy cd_int (by rfl) m_int boot_int (pma_cons (pm_ixK (Room.hu1 hr) (pk_var (pv 0)) (pm_var (pv 1)) (fun _ _ => rfl)) pma_nil)) pma_nil)) W t)))) pmss_nil)
      (pmss_cons (pms_if (pmt_cmp od_lt (pm_var (pv 2)) (pm_op od_pow pm_int pm_int) (nomark _)) (pmss_one (pms_ret (pm_newW (pmo_lst (pma_cons pm_int (pma_cons (pm_op od_add pm_int (pm_op od_mod (pm_callTy cd_int (by rfl) m_int boot_int (pma_cons (pm_op od_add (pm_op od_mul (pm_var (pv 2)) pm_int) (pm_op od_mul pm_int (pm_var (pv 1)))) pma_nil)) pm_int)) pma_nil)))))) pmss_nil)
      (pmss_one (pms_ret (pm_newW (pmo_lst (pma_cons (pm_var (pv 2)) (pma_cons (pm_op od_add pm_int (pm_op od_mod (pm_callTy cd_int (by rfl) m_int boot_int (pma_cons (pm_op od_add (pm_var (pv 2)) (pm_var (pv 1))) pma_nil)) pm_int)) pma_nil))))))))), ?_⟩
  rintro ds Wo Q E' - ⟨xs, k, rfl, hk, h10, q⟩
  have q' : ∀ x y : Int, ∀ a, Wo a = none → Q (.adr a) (updW Wo a (.lst [.int x, .int y])) := fun x y a h => q a _ ⟨x, y, rfl⟩ h
  have c1 : CPow 10 18 := by unfold CPow; decide
  have c2 : CMul 104729 k := .inl (by decide)
  have c3 : ∀ x, CMul x 7919 := fun x => .inr (by decide)
  walk_at "pls"
  refine ite2 (fun z => ?_) (fun z => ?_)
  · have z : k < xs.length := by simpa using z
    obtain ⟨x, hx, ex⟩ := atI_lt (xs := xs.map D.int) hk (by simpa using z)
    obtain ⟨x, _, rfl⟩ := List.mem_map.mp hx
    refine ⟨.int x, ex, ?_⟩
    · walk_at "pls"
      exact ⟨c1, ite2 (fun _ => ⟨c3 _, c2, by decide, q' _ _⟩) (fun _ => ⟨by decide, q' _ _⟩)⟩
  · exact ⟨c1, ite2 (fun _ => ⟨c3 _, c2, by decide, q' _ _⟩) (fun _ => ⟨by decide, q' _ _⟩)⟩
abbrev s__law_draw : Stmt := topS 36
abbrev N__law_draw : List Str := ["source", "many", "found"]
theorem sc__law_draw : FnScope N__law_draw ["source", "many"] (defScope s__law_draw) := ⟨rfl, rfl, rfl, by decide +kernel, rfl, by decide +kernel, by decide +kernel⟩
theorem ok__law_draw  {k : Nat}  (T : TopD K mg "_law_draw" ["source", "many"] s__law_draw) (m_int : mg "int" = none)  :
    CallF P w K mg base "_law_draw" 2 (k + 1) (φ__law_draw) := by
  refine call_of (N := N__law_draw) (k := k) T sc__law_draw fun f cdv A outer s H E hr => ⟨_, (pmss_cons (pms_if (pmt_cmp od_gt (pm_ixK (Room.hu1 hr) (pk_var (pv 0)) pm_int (fun _ _ => rfl)) pm_int (nomark _)) (pmss_cons (pms_set (i := 2) (fun W t => ps_set (i := 2) sc__law_draw.nd rfl (.inl rfl) ((pm_op od_mod (pm_callTy cd_int (by rfl) m_int boot_int (pma_cons (pm_ixK (Room.hu1 hr) (pk_var (pv 0)) pm_int (fun _ _ => rfl)) pma_nil)) (pm_var (pv 1))) W t)))
      (pmss_cons (pms_store (fun W t => ps_asg ((pm_op od_fdiv (pm_ixK (Room.hu1 hr) (pk_var (pv 0)) pm_int (fun _ _ => rfl)) (pm_var (pv 1))) W t) (pg_sub ((pk_var (pv 0)) W t) (pm_int W t) (set_any (Room.hu1 hr)))))
      (pmss_one (pms_ret (pm_var (pv 2)))))) pmss_nil)
      (pmss_cons (pms_store (fun W t => ps_asg ((pm_op od_mod (pm_callTy cd_int (by rfl) m_int boot_int (pma_cons (pm_op od_mul (pm_ixK (Room.hu1 hr) (pk_var (pv 0)) pm_int (fun _ _ => rfl)) pm_int) pma_nil)) pm_int) W t) (pg_sub ((pk_var (pv 0)) W t) (pm_int W t) (set_any (Room.hu1 hr)))))
      (pmss_one (pms_ret (pm_op od_mod (pm_callTy cd_int (by rfl) m_int boot_int (pma_cons (pm_op od_fdiv (pm_op od_mod (pm_callTy cd_int (by rfl) m_int boot_int (pma_cons (pm_op od_mul (pm_ixK (Room.hu1 hr) (pk_var (pv 0)) pm_int (fun _ _ => rfl)) (pm_ixK (Room.hu1 hr) (pk_var (pv 0)) pm_int (fun _ _ => rfl))) pma_nil)) pm_int) pm_int) pma_nil)) (pm_var (pv 1))))))), ?_⟩
  rintro ds Wo Q E' - ⟨a, m, rfl, hm, hm2, ⟨x, y, hx⟩, q⟩
  have cn : ∀ ρ, con ⟨ρ, Wo⟩ (.val (.adr a)) = .own (.lst [.int x, .int y]) := fun ρ => con_own hx
  have q' : ∀ z x y : Int, 0 ≤ z → z < m → Q (.int z) (updW Wo a (.lst [.int x, .int y])) := fun z x y h1 h2 => q z _ h1 h2 ⟨x, y, rfl⟩
  try simp only [cn, ↓pC, ↓pOp, ↓pUn, ↓pSl, ↓pPart, ↓pNil, ↓pCons, ↓pTup, ↓pLst, ↓pCallB, ↓pTest, ↓pNot, ↓pAnd, ↓pOr, ↓pAndV, ↓pOrV, ↓pNotV, ↓pIf, ↓pNext, ↓pSeq, ↓pBreak, ↓pCont, ↓pDrop, ↓pRet, ↓pRetN, ↓pIfS, ↓pgNil, ↓pgCons, ↓pgTup, ↓pAsg, ↓pRaise, ↓pCall, ↓pIter, ↓pFor, ↓pLc, ↓pYes, ↓pkOf, ↓pIxK, ↓pTabG, ↓pLenK, ↓pChain, ↓pStore, ↓pAppend, ↓pPop, ↓poLst, ↓poDct, ↓pNewW, ↓pRng1, ↓pRng2, ↓pTry, ↓pTryAs, ↓oEq, ↓oNe, ↓oLen, ↓oSum, ↓oAll, ↓oAny, ↓oIsi, start0, List.map_cons, List.map_nil, List.length_cons, List.length_nil, List.cons_append, List.nil_append, List.getElem?_cons_zero, List.getElem?_cons_succ, List.set_cons_zero, List.set_cons_succ, List.replicate, D.bl.injEq, D.int.injEq, D.str.injEq, D.tup.injEq, D.lst.injEq, exists_eq_left', exists_eq_left, Option.some.injEq, Bool.false_eq_true, if_true, if_false, true_and, and_true, false_and, and_false, isi_int, isi_bool, isi_str, isi_tuple, isi_list, isiT_int, isiT_bool, isiT_str, isiT_tuple, isiT_list, Bool.not_true, Bool.not_false, dat_non, dat_bl, dat_int, dat_str, dat_tup, dat_lst, isInt_non, isInt_bl, isInt_int, isInt_str, isInt_tup, isInt_lst, isBool_non, isBool_bl, isBool_int, isBool_str, isBool_tup, isBool_lst, isStr_non, isStr_bl, isStr_int, isStr_str, isStr_tup, isStr_lst, isTup_non, isTup_bl, isTup_int, isTup_str, isTup_tup, isTup_lst, isLst_non, isLst_bl, isLst_int, isLst_str, isLst_tup, isLst_lst, Nat.reduceAdd, Nat.zero_add, sz_0, sz_1, sz_2, sz_3, sz_4, sz_5, sz_6, sz_7, sz_8, sz_9, sz_10, sz_11, sz_12, List.any_cons, List.any_nil, eqD_tup, eqD_str, eqD_int, eqDs_cons, eqDs_nil, eqDs_cn, eqDs_nc, Bool.or_false, Bool.and_true, at0, at1, at2, at3, at4, good_int, good_bl, good_nil, good_nilL, good_non, eqDs_nil_r, eqDs_nil_l, List.isEmpty_nil, List.isEmpty_cons, Bool.and_false, Bool.or_true, Bool.false_or, Bool.true_or, Bool.false_and, Bool.true_and, encB, wipS_mk, List.foldr_cons, List.foldr_nil, con_updW, ↓ixC_ownD, ↓oIx_tup, ↓oIx_lst, ↓oIx_str, ↓lenC_ownL, ↓lenC_ownD, ↓setC_ownD, putC_adr, Own_lst_inj, Con_own_inj, updW_upd, Nat.reduceSub, Nat.sub_self, ↓itD_lst, ↓itD_tup, ↓oInt_i, ↓oCmp_i, ↓oAdd_i, ↓oAdd_s, ↓oAdd_t, ↓oAdd_l, ↓oNeg_i, ↓o1I_i, ↓o2I_i, ↓oSl_t, ↓oSl_l, ↓oList_t, ↓oList_l, ↓oTuple_t, ↓oTuple_l, ↓oIn_t, ↓oIn_l, ↓oIsN_n, ↓ixC_ownLi, ↓setC_ownLi, ixN20, ixN21, ex_int1, ex_int2, ↓pSet_eq, ↓ixK_tup, ↓ixK_lst, ↓ixK_str, ↓ixK_dct, ↓lenK_tup, ↓lenK_lst, ↓lenK_str, ↓pSetO_eq, ↓pPar_eq, ↓kPar_mk, ↓pGet2, ↓pFrzO_eq, ↓kFrz_lst, ↓kFrz_dct, ↓pPairs_nil, ↓pPairs_cons, ↓poDisp, ↓getC_val, isDc_val, ↓poCat, ↓catD_l, ↓pVarV0, ↓pVarV1, ↓pVarV2, ↓pVarL0, ↓pVarL1, ↓pVarL2, ↓pVarD0, ↓pVarD1, ↓pVarD2, ↓pkVarV0, ↓pkVarV1, ↓pkVarV2, ↓pkVarO0, ↓pkVarO1, ↓pkVarO2, ↓kSetN0, ↓kSetN1, ↓kSetN2, ↓kSetO_N0, ↓kSetO_N1, ↓kSetO_N2, ↓pgNameN0, ↓pgNameN1, ↓pgNameN2, ↓ixS0, ↓ixS1, ↓ixS2, ↓lenS0, ↓lenS1, ↓lenS2, ↓setS0, ↓setS1, ↓setS2, ↓conS0, ↓conS1, ↓conS2, ↓putS0, ↓putS1, ↓putS2]
  refine ite2 (fun z => ?_) (fun z => ?_)
  · exact ⟨hm, ⟨hm, hm2⟩, q' _ _ _ (Int.emod_nonneg _ (by omega)) (Int.emod_lt_of_pos _ hm)⟩
  · have h1 := Int.emod_nonneg (y * 48271) (show (2147483647 : Int) ≠ 0 by decide)
    have h2 := Int.emod_lt_of_pos (y * 48271) (show (0 : Int) < 2147483647 by decide)
    exact ⟨.inr (by decide), by decide, .inl ⟨by omega, by omega⟩, by decide, ⟨by decide, by decide⟩, hm, q' _ _ _ (Int.emod_nonneg _ (by omega)) (Int.emod_lt_of_pos _ hm)⟩
abbrev s__law_of : Stmt := topS 37
abbrev N__law_of : List Str := ["source", "items"]
theorem sc__law_of : FnScope N__law_of ["source", "items"] (defScope s__law_of) := ⟨rfl, rfl, rfl, by decide +kernel, rfl, by decide +kernel, by decide +kernel⟩
theorem ok__law_of  {k : Nat}  (T : TopD K mg "_law_of" ["source", "items"] s__law_of) (c__law_draw : CallF P w K mg base "_law_draw" 2 k (φ__law_draw)) (m_len : mg "len" = none)  :
    CallF P w K mg base "_law_of" 2 (k + 1) (φ__law_of) := by
  refine call_of (N := N__law_of) (k := k) T sc__law_of fun f cdv A outer s H E hr => ⟨_, (pmss_one (pms_ret (pm_ixK (Room.hu1 hr) (pk_var (pv 1)) (pm_callF c__law_draw hr (by rfl) (pma_cons (pm_var (pv 0)) (pma_cons (pm_lenK (by rfl) m_len (pk_var (pv 1))) pma_nil))) (fun _ _ => rfl)))), ?_⟩
  rintro ds Wo Q E' - ⟨a, d, xs, rfl, hd, hx, hl, hs, q⟩
  walk_at "pls"
  have hp : 0 < xs.length := List.length_pos_iff.mpr hx
  have fin : ∀ (z : Int) W', 0 ≤ z → z < (xs.length : Int) → Dr Wo a W' → ∃ d, atI xs z = some d ∧ Q d W' := fun z W' h1 h2 h3 => by
    obtain ⟨x, hx, ex⟩ := atI_lt h1 h2
    exact ⟨x, ex, q _ _ hx h3⟩
  cases d with
  | lst ys =>
    cases hd
    walk_at "pls"
    refine ⟨a, _, rfl, by omega, by omega, hs, fun z W' h1 h2 h3 => ?_⟩
    walk_at "pls"
    exact fin z W' h1 h2 h3
  | tup ys =>
    cases hd
    walk_at "pls"
    refine ⟨a, _, rfl, by omega, by omega, hs, fun z W' h1 h2 h3 => ?_⟩
    walk_at "pls"
    exact fin z W' h1 h2 h3
  | _ => cases hd
abbrev s__law_simple : Stmt := topS 38
abbrev N__law_simple : List Str := ["source", "way", "number"]
theorem sc__law_simple : FnScope N__law_simple ["source"] (defScope s__law_simple) := ⟨rfl, rfl, rfl, by decide +kernel, rfl, by decide +kernel, by decide +kernel⟩
theorem ok__law_simple  {k : Nat}  (T : TopD K mg "_law_simple" ["source"] s__law_simple) (c__law_of : CallF P w K mg base "_law_of" 2 k (φ__law_of)) (c__law_draw : CallF P w K mg base "_law_draw" 2 k (φ__law_draw))  :
    CallF P w K mg base "_law_simple" 1 (k + 1) (φ__law_simple) := by
  refine call_of (N := N__law_simple) (k := k) T sc__law_simple fun f cdv A outer s H E hr => ⟨_, (pmss_cons (pms_par (i := 1) (j := 2) (fun W t => ps_par (i := 1) (j := 2) rfl sc__law_simple.nd rfl rfl (by decide) rfl rfl ((pma_cons (pm_callF c__law_draw hr (by rfl) (pma_cons (pm_var (pv 0)) (pma_cons pm_int pma_nil))) (pma_cons (pm_op od_add pm_int (pm_callF c__law_draw hr (by rfl) (pma_cons (pm_var (pv 0)) (pma_cons (pm_callF c__law_of hr (by rfl) (pma_cons (pm_var (pv 0)) (pma_cons (pm_lst (pma_cons pm_int (pma_cons pm_int (pma_cons pm_int pma_nil)))) pma_nil))) pma_nil)))) pma_nil)) W t) (by rfl)))
      (pmss_cons (pms_if (pmt_cmp od_lt (pm_var (pv 1)) pm_int (nomark _)) (pmss_one (pms_ret (pm_tup (pma_cons (pm_callF c__law_of hr (by rfl) (pma_cons (pm_var (pv 0)) (pma_cons (pm_lst (pma_cons pm_str (pma_cons pm_str (pma_cons pm_str (pma_cons pm_str (pma_cons pm_str pma_nil)))))) pma_nil))) (pma_cons (pm_var (pv 2)) pma_nil))))) pmss_nil)
      (pmss_cons (pms_if (pmt_cmp od_lt (pm_var (pv 1)) pm_int (nomark _)) (pmss_one (pms_ret (pm_tup (pma_cons pm_str pma_nil)))) pmss_nil)
      (pmss_one (pms_ret (pm_tup (pma_cons (pm_callF c__law_of hr (by rfl) (pma_cons (pm_var (pv 0)) (pma_cons (pm_lst (pma_cons pm_str (pma_cons pm_str pma_nil))) pma_nil))) pma_nil))))))), ?_⟩
  rintro ds Wo Q E' - ⟨a, rfl, hs, q⟩
  walk_at "pls"
  refine ⟨a, _, rfl, by decide, by decide, hs, fun w W1 w1 w2 d1 => ?_⟩
  refine ⟨a, _, _, rfl, rfl, by simp, by decide, d1.src, fun z W2 hz d2 => ?_⟩
  have d12 := d1.trans d2
  obtain ⟨z, rfl, z1, z2⟩ : ∃ n : Int, z = .int n ∧ 0 < n ∧ n ≤ 8 := by
    simp only [List.mem_cons, List.not_mem_nil, or_false] at hz
    rcases hz with rfl | rfl | rfl <;> exact ⟨_, rfl, by decide, by decide⟩
  refine ⟨a, _, rfl, z1, by omega, d2.src, fun n W3 n1 n2 d3 => ?_⟩
  have d123 := d12.trans d3
  have hin : inR 1 8 (1 + n) = true := by simp only [inR, Bool.and_eq_true, decide_eq_true_eq]; omega
  walk_at "pls"
  refine ite2 (fun _ => ?_) (fun _ => ite2 (fun _ => ?_) (fun _ => ?_))
  · refine ⟨a, _, _, rfl, rfl, by simp, by decide, d3.src, fun x W4 hx d4 => ?_⟩
    have dd := d123.trans d4
    simp only [List.mem_cons, List.not_mem_nil, or_false] at hx
    rcases hx with rfl | rfl | rfl | rfl | rfl
    · exact q (.wait _) _ hin dd
    · exact q (.rest _) _ hin dd
    · exact q (.move _) _ hin dd
    · exact q (.ahead _) _ hin dd
    · exact q (.set _) _ hin dd
  · exact q .until _ rfl d123
  · refine ⟨a, _, _, rfl, rfl, by simp, by decide, d3.src, fun x W4 hx d4 => ?_⟩
    have dd := d123.trans d4
    simp only [List.mem_cons, List.not_mem_nil, or_false] at hx
    rcases hx with rfl | rfl
    · exact q .up _ rfl dd
    · exact q .down _ rfl dd
abbrev s__law_body : Stmt := topS 39
abbrev N__law_body : List Str := ["source", "deep", "most", "found", "turn", "statement", "test"]
theorem sc__law_body : FnScope N__law_body ["source", "deep", "most"] (defScope s__law_body) := ⟨rfl, rfl, rfl, by decide +kernel, rfl, by decide +kernel, by decide +kernel⟩
theorem ok__law_body {d : Nat} {k : Nat}  (T : TopD K mg "_law_body" ["source", "deep", "most"] s__law_body) (m_range : mg "range" = none) (c__law_draw : CallF P w K mg base "_law_draw" 2 k (φ__law_draw)) (c__law_body : CallF P w K mg base "_law_body" 3 k (lowφ 2 φ__law_body d)) (c__law_of : CallF P w K mg base "_law_of" 2 k (φ__law_of)) (c__law_simple : CallF P w K mg base "_law_simple" 1 k (φ__law_simple)) (hd : 1 ≤ d) :
    CallF P w K mg base "_law_body" 3 (k + 1) (φ__law_body d) := by
  refine call_of (N := N__law_body) (k := k) T sc__law_body fun f cdv A outer s H E hr => ⟨_, (pmss_cons (pms_set (i := 3) (fun W t => ps_set (i := 3) sc__law_body.nd rfl (.inl rfl) ((pm_tup pma_nil) W t)))
      (pmss_cons (pms_for (passes_of rfl) rfl (pmi_range1 (by rfl) m_range (pma_cons (pm_callF c__law_draw hr (by rfl) (pma_cons (pm_var (pv 0)) (pma_cons (pm_op od_add (pm_var (pv 2)) pm_int) pma_nil))) pma_nil)) (pmg_of (vs := [4]) (pg_name (i := 4) sc__law_body.nd rfl (.inl rfl)))
      (pmss_cons (pms_set (i := 5) (fun W t => ps_set (i := 5) sc__law_body.nd rfl (.inl rfl) ((pm_callF c__law_simple hr (by rfl) (pma_cons (pm_var (pv 0)) pma_nil)) W t)))
      (pmss_cons (pms_if (pmt_w (pmw_and (pmt_cmp od_gt (pm_var (pv 1)) pm_int (nomark _)) (pmw_and1 (pmt_cmp (od_eq (Room.hu64 hr)) (pm_callF c__law_draw hr (by rfl) (pma_cons (pm_var (pv 0)) (pma_cons pm_int pma_nil))) pm_int (nomark _))))) (pmss_cons (pms_set (i := 6) (fun W t => ps_set (i := 6) sc__law_body.nd rfl (.inl rfl) ((pm_callF c__law_of hr (by rfl) (pma_cons (pm_var (pv 0)) (pma_cons (pm_lst (pma_cons (pm_tup (pma_cons pm_str pma_nil)) (pma_cons (pm_tup (pma_cons pm_str pma_nil)) (pma_cons (pm_tup (pma_cons pm_str (pma_cons (pm_callF c__law_draw hr (by rfl) (pma_cons (pm_var (pv 0)) (pma_cons pm_int pma_nil))) pma_nil))) pma_nil)))) pma_nil))) W t)))
      (pmss_one (pms_set (i := 5) (fun W t => ps_set (i := 5) sc__law_body.nd rfl (.inl rfl) ((pm_tup (pma_cons pm_str (pma_cons (pm_var (pv 6)) (pma_cons (pm_callF c__law_body hr (by rfl) (pma_cons (pm_var (pv 0)) (pma_cons (pm_op od_sub (pm_var (pv 1)) pm_int) (pma_cons pm_int pma_nil)))) (pma_cons (pm_callF c__law_body hr (by rfl) (pma_cons (pm_var (pv 0)) (pma_cons (pm_op od_sub (pm_var (pv 1)) pm_int) (pma_cons pm_int pma_nil)))) pma_nil))))) W t))))) pmss_nil)
      (pmss_one (pms_set (i := 3) (fun W t => ps_set (i := 3) sc__law_body.nd rfl (.inl rfl) ((pm_op od_add (pm_var (pv 3)) (pm_tup (pma_cons (pm_var (pv 5)) pma_nil))) W t)))))))
      (pmss_one (pms_ret (pm_var (pv 3)))))), ?_⟩
  rintro ds Wo Q E' - ⟨a, m, rfl, h0, h8, hs, q⟩
  walk_at "pls"
  refine ⟨a, _, rfl, by omega, by omega, hs, fun n W1 n1 n2 d1 => ?_⟩
  walk_at "pls"
  refine ⟨⟨by omega, by omega⟩, ?_⟩
  refine forW_range (fun i S => ∃ b W s4 s5 s6, okB d b = true ∧ b.length = i ∧ Dr Wo a W ∧ S = ⟨[.val (.adr a), .val (.int d), .val (.int m), .val (encB b), s4, s5, s6], W⟩) ?_ ?_ ⟨[], W1, _, _, _, rfl, rfl, d1, rfl⟩
  · rintro S ⟨b, W, s4, s5, s6, hb, hl, dr, rfl⟩
    walk_at "pls"
    exact q b _ hb (by omega) dr
  · rintro i S K' hi ⟨b, W, s4, s5, s6, hb, hl, dr, rfl⟩ hK
    have fin : ∀ (s : Stm) W' s4 s6, okS d s = true → Dr Wo a W' → (encSs b).length + 1 ≤ sizeLine ∧ K' ⟨[.val (.adr a), .val (.int d), .val (.int m), .val (.tup (encSs b ++ [encS s])), s4, .val (encS s), s6], W'⟩ := fun s W' s4 s6 h1 h2 => by
      obtain ⟨hb1, hb2⟩ := okB_iff.mp hb
      refine ⟨by show _ ≤ 2 ^ 24; rw [encSs_map, List.length_map]; omega, hK _ ⟨b ++ [s], W', s4, .val (encS s), s6, okB_iff.mpr ⟨by simp; omega, fun x hx => ?_⟩, by simp; omega, h2, by rw [encB, encSs_map, encSs_map]; simp⟩⟩
      rcases List.mem_append.mp hx with hx | hx
      · exact hb2 x hx
      · rw [List.mem_singleton.mp hx]; exact h1
    walk_at "pls"
    refine ⟨a, rfl, dr.src, fun s W2 hs2 d2 => ?_⟩
    have dr2 := dr.trans d2
    have hso : okS d s = true := by obtain ⟨e, rfl⟩ : ∃ e, d = e + 1 := ⟨d - 1, by omega⟩
                                    exact simS_ok hs2 e
    refine ite2 (fun hd1 => ?_) (fun hd1 => fin s _ _ _ hso dr2)
    have hd1 : 1 < (d : Int) := by simpa using hd1
    refine ⟨a, _, rfl, by decide, by decide, d2.src, fun n W3 n1 n2 d3 => ?_⟩
    have dr3 := dr2.trans d3
    walk_at "pls"
    refine ite2 (fun _ => ?_) (fun _ => fin s _ _ _ hso dr3)
    refine ⟨a, _, rfl, by decide, by decide, d3.src, fun n4 W4 n41 n42 d4 => ?_⟩
    have dr4 := dr3.trans d4
    refine ⟨a, _, _, rfl, rfl, by simp, by simp, d4.src, fun t W5 ht d5 => ?_⟩
    have dr5 := dr4.trans d5
    obtain ⟨t, hto, rfl⟩ : ∃ u, okT u = true ∧ t = encT u := by
      simp only [List.mem_cons, List.not_mem_nil, or_false] at ht
      rcases ht with rfl | rfl | rfl
      · exact ⟨.due, rfl, rfl⟩
      · exact ⟨.flag, rfl, rfl⟩
      · exact ⟨.late n4, by simp only [okT, inR, Bool.and_eq_true, decide_eq_true_eq]; omega, rfl⟩
    have ed : (d : Int) - 1 = ((d - 1 : Nat) : Int) := by omega
    refine ⟨by omega, a, 2, by rw [ed], by decide, by decide, d5.src, fun b1 W6 b11 b12 d6 => ?_⟩
    have dr6 := dr5.trans d6
    refine ⟨by omega, a, 1, by rw [ed], by decide, by decide, d6.src, fun b2 W7 b21 b22 d7 => ?_⟩
    have dr7 := dr6.trans d7
    exact fin (.ite t b1 b2) _ _ _ (by obtain ⟨e, rfl⟩ : ∃ e, d = e + 1 := ⟨d - 1, by omega⟩
                                       exact okS_ite.mpr ⟨hto, b11, b21⟩) dr7
abbrev s__law_size : Stmt := topS 40
abbrev N__law_size : List Str := ["body", "many", "statement"]
theorem sc__law_size : FnScope N__law_size ["body"] (defScope s__law_size) := ⟨rfl, rfl, rfl, by decide +kernel, rfl, by decide +kernel, by decide +kernel⟩
theorem ok__law_size {d : Nat} {k : Nat}  (T : TopD K mg "_law_size" ["body"] s__law_size) (c__law_size : CallF P w K mg base "_law_size" 1 k (lowφ 1 φ__law_size d))  :
    CallF P w K mg base "_law_size" 1 (k + 1) (φ__law_size d) := by
  refine call_of (N := N__law_size) (k := k) T sc__law_size fun f cdv A outer s H E hr => ⟨_, (pmss_cons (pms_set (i := 1) (fun W t => ps_set (i := 1) sc__law_size.nd rfl (.inl rfl) (pm_int W t)))
      (pmss_cons (pms_for (passes_of rfl) rfl (pmi_seq (pm_var (pv 0))) (pmg_of (vs := [2]) (pg_name (i := 2) sc__law_size.nd rfl (.inl rfl)))
      (pmss_cons (pms_set (i := 1) (fun W t => ps_set (i := 1) sc__law_size.nd rfl (.inl rfl) ((pm_op od_add (pm_var (pv 1)) pm_int) W t)))
      (pmss_one (pms_if (pmt_cmp (od_eq (Room.hu64 hr)) (pm_ixK (Room.hu1 hr) (pk_var (pv 2)) pm_int (fun _ _ => rfl)) pm_str (nomark _)) (pmss_one (pms_set (i := 1) (fun W t => ps_set (i := 1) sc__law_size.nd rfl (.inl rfl) ((pm_op od_add (pm_op od_add (pm_var (pv 1)) (pm_callF c__law_size hr (by rfl) (pma_cons (pm_ixK (Room.hu1 hr) (pk_var (pv 2)) pm_int (fun _ _ => rfl)) pma_nil))) (pm_callF c__law_size hr (by rfl) (pma_cons (pm_ixK (Room.hu1 hr) (pk_var (pv 2)) pm_int (fun _ _ => rfl)) pma_nil))) W t)))) pmss_nil))))
      (pmss_one (pms_ret (pm_var (pv 1)))))), ?_⟩
  rintro ds Wo Q E' - ⟨b, rfl, hb, q⟩
  walk_at "pls"
  rw [encSs_map]
  refine forW_list encS (fun r S => ∃ b0 s2, b = b0 ++ r ∧ (∀ x ∈ r, okS d x = true) ∧ S = ⟨[.val (.tup (encSs b)), .val (.int (listedB b0).length), s2], Wo⟩) ?_ ?_ b _ ⟨[], .emp, rfl, (okB_iff.mp hb).2, by rw [encSs_map]; rfl⟩
  · rintro S ⟨b0, s2, e, _, rfl⟩
    walk_at "pls"
    rw [List.append_nil] at e
    exact e ▸ q
  · rintro s r S K' ⟨b0, s2, e, ho, rfl⟩ hK
    have hs := ho s (List.mem_cons_self ..)
    have done : ∀ i : Int, i = (listedB b0).length + (listedS s).length → K' ⟨[.val (.tup (encSs b)), .val (.int i), .val (encS s)], Wo⟩ := fun i hi => hK _ ⟨b0 ++ [s], .val (encS s), by rw [e]; simp, fun x hx => ho x (List.mem_cons_of_mem _ hx), by
      have e1 : listedB (b0 ++ [s]) = listedB b0 ++ listedS s := by rw [listedB_append, listedB, listedB, List.append_nil]
      subst hi; rw [e1, List.length_append, Int.natCast_add]⟩
    walk_at "pls"
    have g1 : D.good (.str "if") = true := by decide +kernel
    cases s with
    | ite t x y =>
      cases d with
      | zero => simp [okS] at hs
      | succ d =>
        obtain ⟨_, hx, hy⟩ := okS_ite.mp hs
        try simp only [encS, g1, Nat.add_sub_cancel, ↓pC, ↓pOp, ↓pUn, ↓pSl, ↓pPart, ↓pNil, ↓pCons, ↓pTup, ↓pLst, ↓pCallB, ↓pTest, ↓pNot, ↓pAnd, ↓pOr, ↓pAndV, ↓pOrV, ↓pNotV, ↓pIf, ↓pNext, ↓pSeq, ↓pBreak, ↓pCont, ↓pDrop, ↓pRet, ↓pRetN, ↓pIfS, ↓pgNil, ↓pgCons, ↓pgTup, ↓pAsg, ↓pRaise, ↓pCall, ↓pIter, ↓pFor, ↓pLc, ↓pYes, ↓pkOf, ↓pIxK, ↓pTabG, ↓pLenK, ↓pChain, ↓pStore, ↓pAppend, ↓pPop, ↓poLst, ↓poDct, ↓pNewW, ↓pRng1, ↓pRng2, ↓pTry, ↓pTryAs, ↓oEq, ↓oNe, ↓oLen, ↓oSum, ↓oAll, ↓oAny, ↓oIsi, start0, List.map_cons, List.map_nil, List.length_cons, List.length_nil, List.cons_append, List.nil_append, List.getElem?_cons_zero, List.getElem?_cons_succ, List.set_cons_zero, List.set_cons_succ, List.replicate, D.bl.injEq, D.int.injEq, D.str.injEq, D.tup.injEq, D.lst.injEq, exists_eq_left', exists_eq_left, Option.some.injEq, Bool.false_eq_true, if_true, if_false, true_and, and_true, false_and, and_false, isi_int, isi_bool, isi_str, isi_tuple, isi_list, isiT_int, isiT_bool, isiT_str, isiT_tuple, isiT_list, Bool.not_true, Bool.not_false, dat_non, dat_bl, dat_int, dat_str, dat_tup, dat_lst, isInt_non, isInt_bl, isInt_int, isInt_str, isInt_tup, isInt_lst, isBool_non, isBool_bl, isBool_int, isBool_str, isBool_tup, isBool_lst, isStr_non, isStr_bl, isStr_int, isStr_str, isStr_tup, isStr_lst, isTup_non, isTup_bl, isTup_int, isTup_str, isTup_tup, isTup_lst, isLst_non, isLst_bl, isLst_int, isLst_str, isLst_tup, isLst_lst, Nat.reduceAdd, Nat.zero_add, sz_0, sz_1, sz_2, sz_3, sz_4, sz_5, sz_6, sz_7, sz_8, sz_9, sz_10, sz_11, sz_12, List.any_cons, List.any_nil, eqD_tup, eqD_str, eqD_int, eqDs_cons, eqDs_nil, eqDs_cn, eqDs_nc, Bool.or_false, Bool.and_true, at0, at1, at2, at3, at4, good_int, good_bl, good_nil, good_nilL, good_non, eqDs_nil_r, eqDs_nil_l, List.isEmpty_nil, List.isEmpty_cons, Bool.and_false, Bool.or_true, Bool.false_or, Bool.true_or, Bool.false_and, Bool.true_and, encB, wipS_mk, List.foldr_cons, List.foldr_nil, con_updW, ↓ixC_ownD, ↓oIx_tup, ↓oIx_lst, ↓oIx_str, ↓lenC_ownL, ↓lenC_ownD, ↓setC_ownD, putC_adr, Own_lst_inj, Con_own_inj, updW_upd, Nat.reduceSub, Nat.sub_self, ↓itD_lst, ↓itD_tup, ↓oInt_i, ↓oCmp_i, ↓oAdd_i, ↓oAdd_s, ↓oAdd_t, ↓oAdd_l, ↓oNeg_i, ↓o1I_i, ↓o2I_i, ↓oSl_t, ↓oSl_l, ↓oList_t, ↓oList_l, ↓oTuple_t, ↓oTuple_l, ↓oIn_t, ↓oIn_l, ↓oIsN_n, ↓ixC_ownLi, ↓setC_ownLi, ixN20, ixN21, ex_int1, ex_int2, ↓pSet_eq, ↓ixK_tup, ↓ixK_lst, ↓ixK_str, ↓ixK_dct, ↓lenK_tup, ↓lenK_lst, ↓lenK_str, ↓pSetO_eq, ↓pPar_eq, ↓kPar_mk, ↓pGet2, ↓pFrzO_eq, ↓kFrz_lst, ↓kFrz_dct, ↓pPairs_nil, ↓pPairs_cons, ↓poDisp, ↓getC_val, isDc_val, ↓poCat, ↓catD_l, ↓pVarV0, ↓pVarV1, ↓pVarV2, ↓pVarL0, ↓pVarL1, ↓pVarL2, ↓pVarD0, ↓pVarD1, ↓pVarD2, ↓pkVarV0, ↓pkVarV1, ↓pkVarV2, ↓pkVarO0, ↓pkVarO1, ↓pkVarO2, ↓kSetN0, ↓kSetN1, ↓kSetN2, ↓kSetO_N0, ↓kSetO_N1, ↓kSetO_N2, ↓pgNameN0, ↓pgNameN1, ↓pgNameN2, ↓ixS0, ↓ixS1, ↓ixS2, ↓lenS0, ↓lenS1, ↓lenS2, ↓setS0, ↓setS1, ↓setS2, ↓conS0, ↓conS1, ↓conS2, ↓putS0, ↓putS1, ↓putS2]
        refine ite2 (fun _ => ?_) (fun c => absurd rfl c)
        refine ⟨by omega, x, rfl, hx, ?_⟩
        walk_at "pls"
        refine ⟨by omega, y, rfl, hy, ?_⟩
        walk_at "pls"
        exact done _ (by simp only [listedS, List.length_cons, List.length_append]; omega)
    | _ =>
      try simp only [encS, g1, ↓pC, ↓pOp, ↓pUn, ↓pSl, ↓pPart, ↓pNil, ↓pCons, ↓pTup, ↓pLst, ↓pCallB, ↓pTest, ↓pNot, ↓pAnd, ↓pOr, ↓pAndV, ↓pOrV, ↓pNotV, ↓pIf, ↓pNext, ↓pSeq, ↓pBreak, ↓pCont, ↓pDrop, ↓pRet, ↓pRetN, ↓pIfS, ↓pgNil, ↓pgCons, ↓pgTup, ↓pAsg, ↓pRaise, ↓pCall, ↓pIter, ↓pFor, ↓pLc, ↓pYes, ↓pkOf, ↓pIxK, ↓pTabG, ↓pLenK, ↓pChain, ↓pStore, ↓pAppend, ↓pPop, ↓poLst, ↓poDct, ↓pNewW, ↓pRng1, ↓pRng2, ↓pTry, ↓pTryAs, ↓oEq, ↓oNe, ↓oLen, ↓oSum, ↓oAll, ↓oAny, ↓oIsi, start0, List.map_cons, List.map_nil, List.length_cons, List.length_nil, List.cons_append, List.nil_append, List.getElem?_cons_zero, List.getElem?_cons_succ, List.set_cons_zero, List.set_cons_succ, List.replicate, D.bl.injEq, D.int.injEq, D.str.injEq, D.tup.injEq, D.lst.injEq, exists_eq_left', exists_eq_left, Option.some.injEq, Bool.false_eq_true, if_true, if_false, true_and, and_true, false_and, and_false, isi_int, isi_bool, isi_str, isi_tuple, isi_list, isiT_int, isiT_bool, isiT_str, isiT_tuple, isiT_list, Bool.not_true, Bool.not_false, dat_non, dat_bl, dat_int, dat_str, dat_tup, dat_lst, isInt_non, isInt_bl, isInt_int, isInt_str, isInt_tup, isInt_lst, isBool_non, isBool_bl, isBool_int, isBool_str, isBool_tup, isBool_lst, isStr_non, isStr_bl, isStr_int, isStr_str, isStr_tup, isStr_lst, isTup_non, isTup_bl, isTup_int, isTup_str, isTup_tup, isTup_lst, isLst_non, isLst_bl, isLst_int, isLst_str, isLst_tup, isLst_lst, Nat.reduceAdd, Nat.zero_add, sz_0, sz_1, sz_2, sz_3, sz_4, sz_5, sz_6, sz_7, sz_8, sz_9, sz_10, sz_11, sz_12, List.any_cons, List.any_nil, eqD_tup, eqD_str, eqD_int, eqDs_cons, eqDs_nil, eqDs_cn, eqDs_nc, Bool.or_false, Bool.and_true, at0, at1, at2, at3, at4, good_int, good_bl, good_nil, good_nilL, good_non, eqDs_nil_r, eqDs_nil_l, List.isEmpty_nil, List.isEmpty_cons, Bool.and_false, Bool.or_true, Bool.false_or, Bool.true_or, Bool.false_and, Bool.true_and, encB, wipS_mk, List.foldr_cons, List.foldr_nil, con_updW, ↓ixC_ownD, ↓oIx_tup, ↓oIx_lst, ↓oIx_str, ↓lenC_ownL, ↓lenC_ownD, ↓setC_ownD, putC_adr, Own_lst_inj, Con_own_inj, updW_upd, Nat.reduceSub, Nat.sub_self, ↓itD_lst, ↓itD_tup, ↓oInt_i, ↓oCmp_i, ↓oAdd_i, ↓oAdd_s, ↓oAdd_t, ↓oAdd_l, ↓oNeg_i, ↓o1I_i, ↓o2I_i, ↓oSl_t, ↓oSl_l, ↓oList_t, ↓oList_l, ↓oTuple_t, ↓oTuple_l, ↓oIn_t, ↓oIn_l, ↓oIsN_n, ↓ixC_ownLi, ↓setC_ownLi, ixN20, ixN21, ex_int1, ex_int2, ↓pSet_eq, ↓ixK_tup, ↓ixK_lst, ↓ixK_str, ↓ixK_dct, ↓lenK_tup, ↓lenK_lst, ↓lenK_str, ↓pSetO_eq, ↓pPar_eq, ↓kPar_mk, ↓pGet2, ↓pFrzO_eq, ↓kFrz_lst, ↓kFrz_dct, ↓pPairs_nil, ↓pPairs_cons, ↓poDisp, ↓getC_val, isDc_val, ↓poCat, ↓catD_l, ↓pVarV0, ↓pVarV1, ↓pVarV2, ↓pVarL0, ↓pVarL1, ↓pVarL2, ↓pVarD0, ↓pVarD1, ↓pVarD2, ↓pkVarV0, ↓pkVarV1, ↓pkVarV2, ↓pkVarO0, ↓pkVarO1, ↓pkVarO2, ↓kSetN0, ↓kSetN1, ↓kSetN2, ↓kSetO_N0, ↓kSetO_N1, ↓kSetO_N2, ↓pgNameN0, ↓pgNameN1, ↓pgNameN2, ↓ixS0, ↓ixS1, ↓ixS2, ↓lenS0, ↓lenS1, ↓lenS2, ↓setS0, ↓setS1, ↓setS2, ↓conS0, ↓conS1, ↓conS2, ↓putS0, ↓putS1, ↓putS2]
      refine ⟨by decide +kernel, ite2 (fun c => absurd c (by decide +kernel)) (fun _ => done _ rfl)⟩
theorem okr__law_size {F__law_size : RFn} {k : Nat} (T : TopD K mg "_law_size" ["body"] s__law_size) (c__law_size : CallF P w K mg base "_law_size" 1 k (φR F__law_size)) :
    CallF P w K mg base "_law_size" 1 (k + 1) (φR (runD 3 (r__law_size F__law_size))) :=
  callR_of (N := N__law_size) (k := k) T sc__law_size fun f cdv A outer s H E hr => (rmss_cons (rms_set (i := 1) rm_int (fun te h W t => ps_set (i := 1) sc__law_size.nd rfl (.inl rfl) (h W t)))
      (rmss_cons (rms_for (passes_of rfl) rfl (rmi_seq (rm_var (pv 0))) (rmg_of (vs := [2]) (pg_name (i := 2) sc__law_size.nd rfl (.inl rfl)))
      (rmss_cons (rms_set (i := 1) (rm_op of_add (rm_var (pv 1)) rm_int) (fun te h W t => ps_set (i := 1) sc__law_size.nd rfl (.inl rfl) (h W t)))
      (rmss_one (rms_if (rmt_cmp (of_eq (Room.hu64 hr)) (rm_ixK (Room.hu1 hr) (rk_var (pv 2)) rm_int (fun _ _ => rfl)) rm_str (nomark _)) (rmss_one (rms_set (i := 1) (rm_op of_add (rm_op of_add (rm_var (pv 1)) (rm_callF c__law_size hr (by rfl) (rma_cons (rm_ixK (Room.hu1 hr) (rk_var (pv 2)) rm_int (fun _ _ => rfl)) rma_nil))) (rm_callF c__law_size hr (by rfl) (rma_cons (rm_ixK (Room.hu1 hr) (rk_var (pv 2)) rm_int (fun _ _ => rfl)) rma_nil))) (fun te h W t => ps_set (i := 1) sc__law_size.nd rfl (.inl rfl) (h W t)))) rmss_nil))))
      (rmss_one (rms_ret (rm_var (pv 1))))))
abbrev s__law_known : Stmt := topS 41
abbrev N__law_known : List Str := ["source", "n", "m", "some"]
theorem sc__law_known : FnScope N__law_known ["source"] (defScope s__law_known) := ⟨rfl, rfl, rfl, by decide +kernel, rfl, by decide +kernel, by decide +kernel⟩
theorem ok__law_known  {k : Nat}  (T : TopD K mg "_law_known" ["source"] s__law_known) (c__law_of : CallF P w K mg base "_law_of" 2 k (φ__law_of)) (c__law_draw : CallF P w K mg base "_law_draw" 2 k (φ__law_draw))  :
    CallF P w K mg base "_law_known" 1 (k + 1) (φ__law_known) := by
  refine call_of (N := N__law_known) (k := k) T sc__law_known fun f cdv A outer s H E hr => ⟨_, (pmss_cons (pms_par (i := 1) (j := 2) (fun W t => ps_par (i := 1) (j := 2) rfl sc__law_known.nd rfl rfl (by decide) rfl rfl ((pma_cons (pm_op od_add pm_int (pm_callF c__law_draw hr (by rfl) (pma_cons (pm_var (pv 0)) (pma_cons pm_int pma_nil)))) (pma_cons (pm_op od_add pm_int (pm_callF c__law_draw hr (by rfl) (pma_cons (pm_var (pv 0)) (pma_cons pm_int pma_nil)))) pma_nil)) W t) (by rfl)))
      (pmss_cons (pms_set (i := 3) (fun W t => ps_set (i := 3) sc__law_known.nd rfl (.inl rfl) ((pm_lst (pma_cons (pm_tup (pma_cons (pm_tup (pma_cons pm_str pma_nil)) (pma_cons (pm_tup (pma_cons pm_str (pma_cons (pm_var (pv 1)) pma_nil))) pma_nil))) (pma_cons (pm_tup (pma_cons (pm_tup (pma_cons pm_str pma_nil)) (pma_cons (pm_tup (pma_cons pm_str (pma_cons (pm_var (pv 1)) pma_nil))) pma_nil))) (pma_cons (pm_tup (pma_cons (pm_tup (pma_cons pm_str (pma_cons (pm_var (pv 1)) pma_nil))) pma_nil)) (pma_cons (pm_tup (pma_cons (pm_tup (pma_cons pm_str (pma_cons (pm_var (pv 2)) pma_nil))) pma_nil)) pma_nil))))) W t)))
      (pmss_cons (pms_set (i := 3) (fun W t => ps_set (i := 3) sc__law_known.nd rfl (.inl rfl) ((pm_op od_add (pm_var (pv 3)) (pm_lst (pma_cons (pm_tup (pma_cons (pm_tup (pma_cons pm_str pma_nil)) (pma_cons (pm_tup (pma_cons pm_str (pma_cons (pm_var (pv 1)) pma_nil))) pma_nil))) (pma_cons (pm_tup (pma_cons (pm_tup (pma_cons pm_str (pma_cons (pm_var (pv 1)) pma_nil))) (pma_cons (pm_tup (pma_cons pm_str pma_nil)) (pma_cons (pm_tup (pma_cons pm_str (pma_cons (pm_tup (pma_cons pm_str pma_nil)) (pma_cons (pm_tup (pma_cons (pm_tup (pma_cons pm_str (pma_cons (pm_var (pv 2)) pma_nil))) pma_nil)) (pma_cons (pm_tup pma_nil) pma_nil))))) pma_nil)))) pma_nil)))) W t)))
      (pmss_cons (pms_set (i := 3) (fun W t => ps_set (i := 3) sc__law_known.nd rfl (.inl rfl) ((pm_op od_add (pm_var (pv 3)) (pm_lst (pma_cons (pm_tup (pma_cons (pm_tup (pma_cons pm_str pma_nil)) (pma_cons (pm_tup (pma_cons pm_str (pma_cons (pm_var (pv 1)) pma_nil))) (pma_cons (pm_tup (pma_cons pm_str (pma_cons (pm_tup (pma_cons pm_str (pma_cons (pm_var (pv 2)) pma_nil))) (pma_cons (pm_tup (pma_cons (pm_tup (pma_cons pm_str (pma_cons pm_int pma_nil))) pma_nil)) (pma_cons (pm_tup pma_nil) pma_nil))))) pma_nil)))) pma_nil))) W t)))
      (pmss_cons (pms_set (i := 3) (fun W t => ps_set (i := 3) sc__law_known.nd rfl (.inl rfl) ((pm_op od_add (pm_var (pv 3)) (pm_lst (pma_cons (pm_tup (pma_cons (pm_tup (pma_cons pm_str (pma_cons (pm_tup (pma_cons pm_str pma_nil)) (pma_cons (pm_tup (pma_cons (pm_tup (pma_cons pm_str (pma_cons (pm_var (pv 1)) pma_nil))) (pma_cons (pm_tup (pma_cons pm_str (pma_cons (pm_var (pv 2)) pma_nil))) pma_nil))) (pma_cons (pm_tup (pma_cons (pm_tup (pma_cons pm_str pma_nil)) (pma_cons (pm_tup (pma_cons pm_str (pma_cons (pm_var (pv 1)) pma_nil))) pma_nil))) pma_nil))))) pma_nil)) pma_nil))) W t)))
      (pmss_cons (pms_set (i := 3) (fun W t => ps_set (i := 3) sc__law_known.nd rfl (.inl rfl) ((pm_op od_add (pm_var (pv 3)) (pm_lst (pma_cons (pm_tup (pma_cons (pm_tup (pma_cons pm_str (pma_cons (pm_var (pv 2)) pma_nil))) (pma_cons (pm_tup (pma_cons pm_str pma_nil)) (pma_cons (pm_tup (pma_cons pm_str (pma_cons (pm_var (pv 1)) pma_nil))) pma_nil)))) pma_nil))) W t)))
      (pmss_cons (pms_set (i := 3) (fun W t => ps_set (i := 3) sc__law_known.nd rfl (.inl rfl) ((pm_op od_add (pm_var (pv 3)) (pm_lst (pma_cons (pm_tup (pma_cons (pm_tup (pma_cons pm_str (pma_cons (pm_tup (pma_cons pm_str pma_nil)) (pma_cons (pm_tup (pma_cons (pm_tup (pma_cons pm_str pma_nil)) (pma_cons (pm_tup (pma_cons pm_str (pma_cons (pm_var (pv 2)) pma_nil))) pma_nil))) (pma_cons (pm_tup (pma_cons (pm_tup (pma_cons pm_str pma_nil)) pma_nil)) pma_nil))))) (pma_cons (pm_tup (pma_cons pm_str pma_nil)) (pma_cons (pm_tup (pma_cons pm_str (pma_cons (pm_var (pv 1)) pma_nil))) pma_nil)))) pma_nil))) W t)))
      (pmss_one (pms_ret (pm_callF c__law_of hr (by rfl) (pma_cons (pm_var (pv 0)) (pma_cons (pm_var (pv 3)) pma_nil)))))))))))), ?_⟩
  rintro ds Wo Q E' - ⟨a, rfl, hs, q⟩
  walk_at "pls"
  refine ⟨a, _, rfl, by decide, by decide, hs, fun n W1 n1 n2 d1 => ?_⟩
  walk_at "pls"
  refine ⟨a, _, rfl, by decide, by decide, d1.src, fun m W2 m1 m2 d2 => ?_⟩
  have dd := d1.trans d2
  walk_at "pls"
  refine ⟨a, _, (knL (1 + n) (1 + m)).map encB, rfl, rfl, by simp [knL], by simp [knL], d2.src, fun x W3 hx d3 => ?_⟩
  obtain ⟨b, hb, rfl⟩ := List.mem_map.mp hx
  obtain ⟨h1, h2⟩ := knL_ok (by omega) (by omega) (by omega) (by omega) b hb
  exact q b W3 h1 h2 (dd.trans d3)
abbrev s__law_bent : Stmt := topS 42
abbrev N__law_bent : List Str := ["source", "body", "at", "way", "ahead", "behind"]
theorem sc__law_bent : FnScope N__law_bent ["source", "body"] (defScope s__law_bent) := ⟨rfl, rfl, rfl, by decide +kernel, rfl, by decide +kernel, by decide +kernel⟩
theorem ok__law_bent  {k : Nat}  (T : TopD K mg "_law_bent" ["source", "body"] s__law_bent) (c__law_simple : CallF P w K mg base "_law_simple" 1 k (φ__law_simple)) (c__law_draw : CallF P w K mg base "_law_draw" 2 k (φ__law_draw)) (m_len : mg "len" = none)  :
    CallF P w K mg base "_law_bent" 2 (k + 1) (φ__law_bent) := by
  refine call_of (N := N__law_bent) (k := k) T sc__law_bent fun f cdv A outer s H E hr => ⟨_, (pmss_cons (pms_if (pmt_cmp (od_eq (Room.hu64 hr)) (pm_var (pv 1)) (pm_tup pma_nil) (nomark _)) (pmss_one (pms_ret (pm_tup (pma_cons (pm_tup (pma_cons pm_str (pma_cons pm_int pma_nil))) pma_nil)))) pmss_nil)
      (pmss_cons (pms_par (i := 2) (j := 3) (fun W t => ps_par (i := 2) (j := 3) rfl sc__law_bent.nd rfl rfl (by decide) rfl rfl ((pma_cons (pm_callF c__law_draw hr (by rfl) (pma_cons (pm_var (pv 0)) (pma_cons (pm_lenK (by rfl) m_len (pk_var (pv 1))) pma_nil))) (pma_cons (pm_callF c__law_draw hr (by rfl) (pma_cons (pm_var (pv 0)) (pma_cons pm_int pma_nil))) pma_nil)) W t) (by rfl)))
      (pmss_cons (pms_par (i := 4) (j := 5) (fun W t => ps_par (i := 4) (j := 5) rfl sc__law_bent.nd rfl rfl (by decide) rfl rfl ((pma_cons (pm_slice sld (pm_var (pv 1)) (.inl ⟨rfl, rfl⟩) (.inr ⟨_, _, rfl, rfl, (pm_var (pv 2))⟩)) (pma_cons (pm_slice sld (pm_var (pv 1)) (.inr ⟨_, _, rfl, rfl, (pm_op od_add (pm_var (pv 2)) pm_int)⟩) (.inl ⟨rfl, rfl⟩)) pma_nil)) W t) (by rfl)))
      (pmss_cons (pms_if (pmt_cmp (od_eq (Room.hu64 hr)) (pm_var (pv 3)) pm_int (nomark _)) (pmss_one (pms_ret (pm_op od_add (pm_var (pv 4)) (pm_var (pv 5))))) pmss_nil)
      (pmss_cons (pms_if (pmt_cmp (od_eq (Room.hu64 hr)) (pm_var (pv 3)) pm_int (nomark _)) (pmss_one (pms_ret (pm_op od_add (pm_op od_add (pm_op od_add (pm_var (pv 4)) (pm_slice sld (pm_var (pv 5)) (.inl ⟨rfl, rfl⟩) (.inr ⟨_, _, rfl, rfl, pm_int⟩))) (pm_tup (pma_cons (pm_ixK (Room.hu1 hr) (pk_var (pv 1)) (pm_var (pv 2)) (fun _ _ => rfl)) pma_nil))) (pm_slice sld (pm_var (pv 5)) (.inr ⟨_, _, rfl, rfl, pm_int⟩) (.inl ⟨rfl, rfl⟩))))) pmss_nil)
      (pmss_one (pms_ret (pm_op od_add (pm_op od_add (pm_var (pv 4)) (pm_tup (pma_cons (pm_callF c__law_simple hr (by rfl) (pma_cons (pm_var (pv 0)) pma_nil)) pma_nil))) (pm_var (pv 5)))))))))), ?_⟩
  rintro ds Wo Q E' - ⟨a, b, rfl, hb, h7, hs, q⟩
  have g0 : D.good (.tup (encSs b)) = true := good_B hb
  have hl : (encSs b).length = b.length := by rw [encSs_map, List.length_map]
  have hbo := (okB_iff.mp hb).2
  try simp only [g0, ↓pC, ↓pOp, ↓pUn, ↓pSl, ↓pPart, ↓pNil, ↓pCons, ↓pTup, ↓pLst, ↓pCallB, ↓pTest, ↓pNot, ↓pAnd, ↓pOr, ↓pAndV, ↓pOrV, ↓pNotV, ↓pIf, ↓pNext, ↓pSeq, ↓pBreak, ↓pCont, ↓pDrop, ↓pRet, ↓pRetN, ↓pIfS, ↓pgNil, ↓pgCons, ↓pgTup, ↓pAsg, ↓pRaise, ↓pCall, ↓pIter, ↓pFor, ↓pLc, ↓pYes, ↓pkOf, ↓pIxK, ↓pTabG, ↓pLenK, ↓pChain, ↓pStore, ↓pAppend, ↓pPop, ↓poLst, ↓poDct, ↓pNewW, ↓pRng1, ↓pRng2, ↓pTry, ↓pTryAs, ↓oEq, ↓oNe, ↓oLen, ↓oSum, ↓oAll, ↓oAny, ↓oIsi, start0, List.map_cons, List.map_nil, List.length_cons, List.length_nil, List.cons_append, List.nil_append, List.getElem?_cons_zero, List.getElem?_cons_succ, List.set_cons_zero, List.set_cons_succ, List.replicate, D.bl.injEq, D.int.injEq, D.str.injEq, D.tup.injEq, D.lst.injEq, exists_eq_left', exists_eq_left, Option.some.injEq, Bool.false_eq_true, if_true, if_false, true_and, and_true, false_and, and_false, isi_int, isi_bool, isi_str, isi_tuple, isi_list, isiT_int, isiT_bool, isiT_str, isiT_tuple, isiT_list, Bool.not_true, Bool.not_false, dat_non, dat_bl, dat_int, dat_str, dat_tup, dat_lst, isInt_non, isInt_bl, isInt_int, isInt_str, isInt_tup, isInt_lst, isBool_non, isBool_bl, isBool_int, isBool_str, isBool_tup, isBool_lst, isStr_non, isStr_bl, isStr_int, isStr_str, isStr_tup, isStr_lst, isTup_non, isTup_bl, isTup_int, isTup_str, isTup_tup, isTup_lst, isLst_non, isLst_bl, isLst_int, isLst_str, isLst_tup, isLst_lst, Nat.reduceAdd, Nat.zero_add, sz_0, sz_1, sz_2, sz_3, sz_4, sz_5, sz_6, sz_7, sz_8, sz_9, sz_10, sz_11, sz_12, List.any_cons, List.any_nil, eqD_tup, eqD_str, eqD_int, eqDs_cons, eqDs_nil, eqDs_cn, eqDs_nc, Bool.or_false, Bool.and_true, at0, at1, at2, at3, at4, good_int, good_bl, good_nil, good_nilL, good_non, eqDs_nil_r, eqDs_nil_l, List.isEmpty_nil, List.isEmpty_cons, Bool.and_false, Bool.or_true, Bool.false_or, Bool.true_or, Bool.false_and, Bool.true_and, encB, wipS_mk, List.foldr_cons, List.foldr_nil, con_updW, ↓ixC_ownD, ↓oIx_tup, ↓oIx_lst, ↓oIx_str, ↓lenC_ownL, ↓lenC_ownD, ↓setC_ownD, putC_adr, Own_lst_inj, Con_own_inj, updW_upd, Nat.reduceSub, Nat.sub_self, ↓itD_lst, ↓itD_tup, ↓oInt_i, ↓oCmp_i, ↓oAdd_i, ↓oAdd_s, ↓oAdd_t, ↓oAdd_l, ↓oNeg_i, ↓o1I_i, ↓o2I_i, ↓oSl_t, ↓oSl_l, ↓oList_t, ↓oList_l, ↓oTuple_t, ↓oTuple_l, ↓oIn_t, ↓oIn_l, ↓oIsN_n, ↓ixC_ownLi, ↓setC_ownLi, ixN20, ixN21, ex_int1, ex_int2, ↓pSet_eq, ↓ixK_tup, ↓ixK_lst, ↓ixK_str, ↓ixK_dct, ↓lenK_tup, ↓lenK_lst, ↓lenK_str, ↓pSetO_eq, ↓pPar_eq, ↓kPar_mk, ↓pGet2, ↓pFrzO_eq, ↓kFrz_lst, ↓kFrz_dct, ↓pPairs_nil, ↓pPairs_cons, ↓poDisp, ↓getC_val, isDc_val, ↓poCat, ↓catD_l, ↓pVarV0, ↓pVarV1, ↓pVarV2, ↓pVarV3, ↓pVarV4, ↓pVarV5, ↓pVarL0, ↓pVarL1, ↓pVarL2, ↓pVarL3, ↓pVarL4, ↓pVarL5, ↓pVarD0, ↓pVarD1, ↓pVarD2, ↓pVarD3, ↓pVarD4, ↓pVarD5, ↓pkVarV0, ↓pkVarV1, ↓pkVarV2, ↓pkVarV3, ↓pkVarV4, ↓pkVarV5, ↓pkVarO0, ↓pkVarO1, ↓pkVarO2, ↓pkVarO3, ↓pkVarO4, ↓pkVarO5, ↓kSetN0, ↓kSetN1, ↓kSetN2, ↓kSetN3, ↓kSetN4, ↓kSetN5, ↓kSetO_N0, ↓kSetO_N1, ↓kSetO_N2, ↓kSetO_N3, ↓kSetO_N4, ↓kSetO_N5, ↓pgNameN0, ↓pgNameN1, ↓pgNameN2, ↓pgNameN3, ↓pgNameN4, ↓pgNameN5, ↓ixS0, ↓ixS1, ↓ixS2, ↓ixS3, ↓ixS4, ↓ixS5, ↓lenS0, ↓lenS1, ↓lenS2, ↓lenS3, ↓lenS4, ↓lenS5, ↓setS0, ↓setS1, ↓setS2, ↓setS3, ↓setS4, ↓setS5, ↓conS0, ↓conS1, ↓conS2, ↓conS3, ↓conS4, ↓conS5, ↓putS0, ↓putS1, ↓putS2, ↓putS3, ↓putS4, ↓putS5]
  refine ite2 (fun c => q [.wait 1] _ rfl hs.dr) (fun c => ?_)
  have hp : 0 < b.length := by
    cases b with
    | nil => exact absurd rfl c
    | cons s r => simp
  refine ⟨a, _, rfl, by omega, by omega, hs, fun i W1 i1 i2 d1 => ?_⟩
  refine ⟨a, _, rfl, by decide, by decide, d1.src, fun w W2 w1 w2 d2 => ?_⟩
  have dd := d1.trans d2
  obtain ⟨j, rfl⟩ := Int.eq_ofNat_of_zero_le i1
  have hj : j < b.length := by omega
  walk_at "pls"
  have e1 : (j : Int) + 1 = ((j + 1 : Nat) : Int) := by omega
  have hz : ∀ n : Nat, n ≤ 100 → n ≤ sizeLine := fun n h => by show n ≤ 2 ^ 24; omega
  simp only [e1, cut_toN, cut_fromN, cut_to1, cut_from1, encSs_map]
  simp only [← List.map_take, ← List.map_drop, ← List.map_append, ← List.map_cons, List.length_map, List.length_append, List.length_take, List.length_drop]
  have fin : ∀ (l : List Stm) W', l.length ≤ 8 → (∀ x ∈ l, x ∈ b ∨ okS 3 x = true) → Dr Wo a W' → Q (.tup (l.map encS)) W' := fun l W' h1 h2 h3 => by
    have := q l W' (okB_iff.mpr ⟨h1, fun x hx => (h2 x hx).elim (hbo x) id⟩) h3
    rwa [encB, encSs_map] at this
  have tk : ∀ (n : Nat) (l : List Stm) x, x ∈ l.take n → x ∈ l := fun n l x h => List.mem_of_mem_take h
  have dp : ∀ (n : Nat) (l : List Stm) x, x ∈ l.drop n → x ∈ l := fun n l x h => List.mem_of_mem_drop h
  refine ite2 (fun _ => ?_) (fun _ => ite2 (fun _ => ?_) (fun _ => ?_))
  · refine ⟨hz _ (by omega), fin _ _ (by simp; omega) (fun x hx => .inl ?_) dd⟩
    rcases List.mem_append.mp hx with h | h
    · exact tk _ _ _ h
    · exact dp _ _ _ h
  · refine ⟨hz _ (by omega), encS (b[j]), atI_nat (by rw [List.getElem?_map, List.getElem?_eq_getElem hj]; rfl), hz _ (by omega), hz _ (by simp; omega), ?_⟩
    have e2 : [encS b[j]] = [b[j]].map encS := rfl
    rw [e2, ← List.map_append, ← List.map_append]
    refine fin _ _ (by simp; omega) (fun x hx => .inl ?_) dd
    simp only [List.mem_append, List.mem_singleton] at hx
    rcases hx with ((h | h) | h) | h
    · exact tk _ _ _ h
    · exact dp _ _ _ (tk _ _ _ h)
    · rw [h]; exact List.getElem_mem hj
    · exact dp _ _ _ (dp _ _ _ h)
  · refine ⟨a, rfl, d2.src, fun s W3 hs3 d3 => ?_⟩
    have e2 : [encS s] = [s].map encS := rfl
    refine ⟨hz _ (by omega), hz _ (by simp; omega), ?_⟩
    rw [e2, ← List.map_append, ← List.map_append]
    refine fin _ _ (by simp; omega) (fun x hx => ?_) (dd.trans d3)
    simp only [List.mem_append, List.mem_singleton] at hx
    rcases hx with (h | h) | h
    · exact .inl (tk _ _ _ h)
    · rw [h]; exact .inr (simS_ok hs3 2)
    · exact .inl (dp _ _ _ h)
abbrev s__law_loop : Stmt := topS 43
abbrev N__law_loop : List Str := ["source", "least", "way", "most", "body"]
theorem sc__law_loop : FnScope N__law_loop ["source"] (defScope s__law_loop) := ⟨rfl, rfl, rfl, by decide +kernel, rfl, by decide +kernel, by decide +kernel⟩
theorem ok__law_loop  {k : Nat}  (T : TopD K mg "_law_loop" ["source"] s__law_loop) (c__law_draw : CallF P w K mg base "_law_draw" 2 k (φ__law_draw)) (c__law_size : CallF P w K mg base "_law_size" 1 k (φ__law_size 3)) (c__law_bent : CallF P w K mg base "_law_bent" 2 k (φ__law_bent)) (c__law_known : CallF P w K mg base "_law_known" 1 k (φ__law_known)) (c__law_body : CallF P w K mg base "_law_body" 3 k (φ__law_body 3))  :
    CallF P w K mg base "_law_loop" 1 (k + 1) (φ__law_loop) := by
  refine call_of (N := N__law_loop) (k := k) T sc__law_loop fun f cdv A outer s H E hr => ⟨_, (pmss_cons (pms_par (i := 1) (j := 2) (fun W t => ps_par (i := 1) (j := 2) rfl sc__law_loop.nd rfl rfl (by decide) rfl rfl ((pma_cons (pm_callF c__law_draw hr (by rfl) (pma_cons (pm_var (pv 0)) (pma_cons pm_int pma_nil))) (pma_cons (pm_callF c__law_draw hr (by rfl) (pma_cons (pm_var (pv 0)) (pma_cons pm_int pma_nil))) pma_nil)) W t) (by rfl)))
      (pmss_cons (pms_set (i := 3) (fun W t => ps_set (i := 3) sc__law_loop.nd rfl (.inl rfl) ((pm_op od_add (pm_var (pv 1)) (pm_callF c__law_draw hr (by rfl) (pma_cons (pm_var (pv 0)) (pma_cons pm_int pma_nil)))) W t)))
      (pmss_cons (pms_set (i := 4) (fun W t => ps_set (i := 4) sc__law_loop.nd rfl (.inl rfl) ((pm_ifExp (pmt_cmp od_lt (pm_var (pv 2)) pm_int (nomark _)) (pm_callF c__law_known hr (by rfl) (pma_cons (pm_var (pv 0)) pma_nil)) (pm_callF c__law_body hr (by rfl) (pma_cons (pm_var (pv 0)) (pma_cons pm_int (pma_cons pm_int pma_nil))))) W t)))
      (pmss_cons (pms_if (pmt_w (pmw_or (pmt_cmp (od_eq (Room.hu64 hr)) (pm_var (pv 2)) pm_int (nomark _)) (pmw_or1 (pmt_cmp (od_eq (Room.hu64 hr)) (pm_var (pv 2)) pm_int (nomark _))))) (pmss_one (pms_set (i := 4) (fun W t => ps_set (i := 4) sc__law_loop.nd rfl (.inl rfl) ((pm_callF c__law_bent hr (by rfl) (pma_cons (pm_var (pv 0)) (pma_cons (pm_var (pv 4)) pma_nil))) W t)))) pmss_nil)
      (pmss_cons (pms_if (pmt_cmp od_gt (pm_callF c__law_size hr (by rfl) (pma_cons (pm_var (pv 4)) pma_nil)) pm_int (nomark _)) (pmss_one (pms_set (i := 4) (fun W t => ps_set (i := 4) sc__law_loop.nd rfl (.inl rfl) ((pm_tup (pma_cons (pm_tup (pma_cons pm_str pma_nil)) (pma_cons (pm_tup (pma_cons pm_str (pma_cons pm_int pma_nil))) pma_nil))) W t)))) pmss_nil)
      (pmss_one (pms_ret (pm_tup (pma_cons (pm_var (pv 1)) (pma_cons (pm_var (pv 3)) (pma_cons (pm_callF c__law_draw hr (by rfl) (pma_cons (pm_var (pv 0)) (pma_cons pm_int pma_nil))) (pma_cons (pm_var (pv 4)) pma_nil)))))))))))), ?_⟩
  rintro ds Wo Q E' - ⟨a, rfl, hs, q⟩
  walk_at "pls"
  refine ⟨a, _, rfl, by decide, by decide, hs, fun n W1 n1 n2 d1 => ?_⟩
  refine ⟨a, _, rfl, by decide, by decide, d1.src, fun w W2 w1 w2 d2 => ?_⟩
  walk_at "pls"
  refine ⟨a, _, rfl, by decide, by decide, d2.src, fun m W3 m1 m2 d3 => ?_⟩
  have dd := (d1.trans d2).trans d3
  walk_at "pls"
  refine ite2 (fun _ => ⟨a, rfl, d3.src, fun b W4 hb hl d4 => ?_⟩) (fun _ => ⟨a, _, rfl, by decide, by decide, d3.src, fun b W4 hb hl d4 => ?_⟩)
  · have hb3 : okB 3 b = true := okB_mono hb (by decide)
    have dx := dd.trans d4
    refine ite2 (fun _ => ?_) (fun _ => ite2 (fun _ => ?_) (fun _ => ?_))
    · refine ⟨a, b, rfl, hb3, by omega, dx.src, fun b' W5 hb' d5 => ?_⟩
      have dy := dx.trans d5
      refine ⟨b', rfl, hb', ?_⟩
      walk_at "pls"
      refine ite2 (fun _ => ⟨a, _, rfl, by decide, by decide, dy.src, fun f W9 f1 f2 d9 => ?_⟩) (fun z => ⟨a, _, rfl, by decide, by decide, dy.src, fun f W9 f1 f2 d9 => ?_⟩)
      · exact q ⟨n, n + m, f, [.until, .move 3]⟩ W9 ⟨okL_iff.mpr ⟨⟨by omega, by show n ≤ n + m; omega, by show n + m ≤ 8; omega, f1, by show f ≤ 8; omega⟩, rfl, by show 2 ≤ 12; decide⟩, by show n ≤ 2; omega, by show n + m ≤ n + 3; omega, by show f ≤ 5; omega⟩ (dy.trans d9)
      · have z : (listedB b').length ≤ 12 := by simp only [decide_eq_true_eq] at z; omega
        exact q ⟨n, n + m, f, b'⟩ W9 ⟨okL_iff.mpr ⟨⟨by omega, by show n ≤ n + m; omega, by show n + m ≤ 8; omega, f1, by show f ≤ 8; omega⟩, hb', z⟩, by show n ≤ 2; omega, by show n + m ≤ n + 3; omega, by show f ≤ 5; omega⟩ (dy.trans d9)
    · refine ⟨a, b, rfl, hb3, by omega, dx.src, fun b' W5 hb' d5 => ?_⟩
      have dy := dx.trans d5
      refine ⟨b', rfl, hb', ?_⟩
      walk_at "pls"
      refine ite2 (fun _ => ⟨a, _, rfl, by decide, by decide, dy.src, fun f W9 f1 f2 d9 => ?_⟩) (fun z => ⟨a, _, rfl, by decide, by decide, dy.src, fun f W9 f1 f2 d9 => ?_⟩)
      · exact q ⟨n, n + m, f, [.until, .move 3]⟩ W9 ⟨okL_iff.mpr ⟨⟨by omega, by show n ≤ n + m; omega, by show n + m ≤ 8; omega, f1, by show f ≤ 8; omega⟩, rfl, by show 2 ≤ 12; decide⟩, by show n ≤ 2; omega, by show n + m ≤ n + 3; omega, by show f ≤ 5; omega⟩ (dy.trans d9)
      · have z : (listedB b').length ≤ 12 := by simp only [decide_eq_true_eq] at z; omega
        exact q ⟨n, n + m, f, b'⟩ W9 ⟨okL_iff.mpr ⟨⟨by omega, by show n ≤ n + m; omega, by show n + m ≤ 8; omega, f1, by show f ≤ 8; omega⟩, hb', z⟩, by show n ≤ 2; omega, by show n + m ≤ n + 3; omega, by show f ≤ 5; omega⟩ (dy.trans d9)
    · refine ⟨b, rfl, hb3, ?_⟩
      walk_at "pls"
      refine ite2 (fun _ => ⟨a, _, rfl, by decide, by decide, dx.src, fun f W9 f1 f2 d9 => ?_⟩) (fun z => ⟨a, _, rfl, by decide, by decide, dx.src, fun f W9 f1 f2 d9 => ?_⟩)
      · exact q ⟨n, n + m, f, [.until, .move 3]⟩ W9 ⟨okL_iff.mpr ⟨⟨by omega, by show n ≤ n + m; omega, by show n + m ≤ 8; omega, f1, by show f ≤ 8; omega⟩, rfl, by show 2 ≤ 12; decide⟩, by show n ≤ 2; omega, by show n + m ≤ n + 3; omega, by show f ≤ 5; omega⟩ (dx.trans d9)
      · have z : (listedB b).length ≤ 12 := by simp only [decide_eq_true_eq] at z; omega
        exact q ⟨n, n + m, f, b⟩ W9 ⟨okL_iff.mpr ⟨⟨by omega, by show n ≤ n + m; omega, by show n + m ≤ 8; omega, f1, by show f ≤ 8; omega⟩, hb3, z⟩, by show n ≤ 2; omega, by show n + m ≤ n + 3; omega, by show f ≤ 5; omega⟩ (dx.trans d9)
  · have hb3 : okB 3 b = true := hb
    have dx := dd.trans d4
    refine ite2 (fun _ => ?_) (fun _ => ite2 (fun _ => ?_) (fun _ => ?_))
    · refine ⟨a, b, rfl, hb3, by omega, dx.src, fun b' W5 hb' d5 => ?_⟩
      have dy := dx.trans d5
      refine ⟨b', rfl, hb', ?_⟩
      walk_at "pls"
      refine ite2 (fun _ => ⟨a, _, rfl, by decide, by decide, dy.src, fun f W9 f1 f2 d9 => ?_⟩) (fun z => ⟨a, _, rfl, by decide, by decide, dy.src, fun f W9 f1 f2 d9 => ?_⟩)
      · exact q ⟨n, n + m, f, [.until, .move 3]⟩ W9 ⟨okL_iff.mpr ⟨⟨by omega, by show n ≤ n + m; omega, by show n + m ≤ 8; omega, f1, by show f ≤ 8; omega⟩, rfl, by show 2 ≤ 12; decide⟩, by show n ≤ 2; omega, by show n + m ≤ n + 3; omega, by show f ≤ 5; omega⟩ (dy.trans d9)
      · have z : (listedB b').length ≤ 12 := by simp only [decide_eq_true_eq] at z; omega
        exact q ⟨n, n + m, f, b'⟩ W9 ⟨okL_iff.mpr ⟨⟨by omega, by show n ≤ n + m; omega, by show n + m ≤ 8; omega, f1, by show f ≤ 8; omega⟩, hb', z⟩, by show n ≤ 2; omega, by show n + m ≤ n + 3; omega, by show f ≤ 5; omega⟩ (dy.trans d9)
    · refine ⟨a, b, rfl, hb3, by omega, dx.src, fun b' W5 hb' d5 => ?_⟩
      have dy := dx.trans d5
      refine ⟨b', rfl, hb', ?_⟩
      walk_at "pls"
      refine ite2 (fun _ => ⟨a, _, rfl, by decide, by decide, dy.src, fun f W9 f1 f2 d9 => ?_⟩) (fun z => ⟨a, _, rfl, by decide, by decide, dy.src, fun f W9 f1 f2 d9 => ?_⟩)
      · exact q ⟨n, n + m, f, [.until, .move 3]⟩ W9 ⟨okL_iff.mpr ⟨⟨by omega, by show n ≤ n + m; omega, by show n + m ≤ 8; omega, f1, by show f ≤ 8; omega⟩, rfl, by show 2 ≤ 12; decide⟩, by show n ≤ 2; omega, by show n + m ≤ n + 3; omega, by show f ≤ 5; omega⟩ (dy.trans d9)
      · have z : (listedB b').length ≤ 12 := by simp only [decide_eq_true_eq] at z; omega
        exact q ⟨n, n + m, f, b'⟩ W9 ⟨okL_iff.mpr ⟨⟨by omega, by show n ≤ n + m; omega, by show n + m ≤ 8; omega, f1, by show f ≤ 8; omega⟩, hb', z⟩, by show n ≤ 2; omega, by show n + m ≤ n + 3; omega, by show f ≤ 5; omega⟩ (dy.trans d9)
    · refine ⟨b, rfl, hb3, ?_⟩
      walk_at "pls"
      refine ite2 (fun _ => ⟨a, _, rfl, by decide, by decide, dx.src, fun f W9 f1 f2 d9 => ?_⟩) (fun z => ⟨a, _, rfl, by decide, by decide, dx.src, fun f W9 f1 f2 d9 => ?_⟩)
      · exact q ⟨n, n + m, f, [.until, .move 3]⟩ W9 ⟨okL_iff.mpr ⟨⟨by omega, by show n ≤ n + m; omega, by show n + m ≤ 8; omega, f1, by show f ≤ 8; omega⟩, rfl, by show 2 ≤ 12; decide⟩, by show n ≤ 2; omega, by show n + m ≤ n + 3; omega, by show f ≤ 5; omega⟩ (dx.trans d9)
      · have z : (listedB b).length ≤ 12 := by simp only [decide_eq_true_eq] at z; omega
        exact q ⟨n, n + m, f, b⟩ W9 ⟨okL_iff.mpr ⟨⟨by omega, by show n ≤ n + m; omega, by show n + m ≤ 8; omega, f1, by show f ≤ 8; omega⟩, hb3, z⟩, by show n ≤ 2; omega, by show n + m ≤ n + 3; omega, by show f ≤ 5; omega⟩ (dx.trans d9)
abbrev s__law_row : Stmt := topS 44
abbrev N__law_row : List Str := ["source", "loop", "most", "grid", "times", "turn", "low", "high", "time"]
theorem sc__law_row : FnScope N__law_row ["source", "loop", "most"] (defScope s__law_row) := ⟨rfl, rfl, rfl, by decide +kernel, rfl, by decide +kernel, by decide +kernel⟩
theorem ok__law_row  {k : Nat}  (T : TopD K mg "_law_row" ["source", "loop", "most"] s__law_row) (m_range : mg "range" = none) (c__law_draw : CallF P w K mg base "_law_draw" 2 k (φ__law_draw)) (c__law_of : CallF P w K mg base "_law_of" 2 k (φ__law_of))  :
    CallF P w K mg base "_law_row" 3 (k + 1) (φ__law_row) := by
  refine call_of (N := N__law_row) (k := k) T sc__law_row fun f cdv A outer s H E hr => ⟨_, (pmss_cons (pms_par (i := 3) (j := 4) (fun W t => ps_par (i := 3) (j := 4) rfl sc__law_row.nd rfl rfl (by decide) rfl rfl ((pma_cons (pm_callF c__law_of hr (by rfl) (pma_cons (pm_var (pv 0)) (pma_cons (pm_lst (pma_cons pm_int (pma_cons pm_int (pma_cons pm_int (pma_cons pm_int (pma_cons (pm_op od_pow pm_int pm_int) pma_nil)))))) pma_nil))) (pma_cons (pm_tup pma_nil) pma_nil)) W t) (by rfl)))
      (pmss_cons (pms_for (passes_of rfl) rfl (pmi_range1 (by rfl) m_range (pma_cons (pm_callF c__law_draw hr (by rfl) (pma_cons (pm_var (pv 0)) (pma_cons (pm_op od_add (pm_var (pv 2)) pm_int) pma_nil))) pma_nil)) (pmg_of (vs := [5]) (pg_name (i := 5) sc__law_row.nd rfl (.inl rfl)))
      (pmss_cons (pms_par (i := 6) (j := 7) (fun W t => ps_par (i := 6) (j := 7) rfl sc__law_row.nd rfl rfl (by decide) rfl rfl ((pma_cons (pm_op od_mul (pm_var (pv 3)) (pm_ixK (Room.hu1 hr) (pk_var (pv 1)) pm_int (fun _ _ => rfl))) (pma_cons (pm_op od_mul (pm_var (pv 3)) (pm_ixK (Room.hu1 hr) (pk_var (pv 1)) pm_int (fun _ _ => rfl))) pma_nil)) W t) (by rfl)))
      (pmss_cons (pms_set (i := 8) (fun W t => ps_set (i := 8) sc__law_row.nd rfl (.inl rfl) ((pm_op od_add (pm_var (pv 6)) (pm_callF c__law_draw hr (by rfl) (pma_cons (pm_var (pv 0)) (pma_cons (pm_op od_add (pm_op od_sub (pm_var (pv 7)) (pm_var (pv 6))) pm_int) pma_nil)))) W t)))
      (pmss_one (pms_set (i := 4) (fun W t => ps_set (i := 4) sc__law_row.nd rfl (.inl rfl) ((pm_op od_add (pm_var (pv 4)) (pm_tup (pma_cons (pm_callF c__law_of hr (by rfl) (pma_cons (pm_var (pv 0)) (pma_cons (pm_lst (pma_cons (pm_var (pv 8)) (pma_cons (pm_var (pv 8)) (pma_cons (pm_var (pv 6)) (pma_cons (pm_var (pv 7)) pma_nil))))) pma_nil))) pma_nil))) W t)))))))
      (pmss_one (pms_ret (pm_tup (pma_cons (pm_var (pv 3)) (pma_cons (pm_var (pv 4)) pma_nil))))))), ?_⟩
  rintro ds Wo Q E' - ⟨a, L, m, rfl, hL, h0, h100, hs, q⟩
  obtain ⟨⟨u1, u2, u3, u4, u5⟩, _⟩ := okL_iff.mp hL
  walk_at "pls"
  refine ⟨(by unfold CPow; decide), a, _, _, rfl, rfl, by simp, by simp, hs, fun g W1 hg d1 => ?_⟩
  obtain ⟨g, rfl, g1, g2⟩ : ∃ n : Int, g = .int n ∧ 1 ≤ n ∧ n ≤ 10 ^ 9 := by
    simp only [List.mem_cons, List.not_mem_nil, or_false] at hg
    rcases hg with rfl | rfl | rfl | rfl | rfl <;> exact ⟨_, rfl, by decide, by decide⟩
  refine ⟨a, _, rfl, by omega, by omega, d1.src, fun n W2 n1 n2 d2 => ?_⟩
  walk_at "pls"
  refine ⟨by omega, ?_⟩
  have b1 : 0 ≤ g * L.least := Int.mul_nonneg (by omega) u1
  have b2 : g * L.least ≤ g * L.most := Int.mul_le_mul_of_nonneg_left u2 (by omega)
  have b3 : g * L.most ≤ g * 8 := Int.mul_le_mul_of_nonneg_left u3 (by omega)
  have g2 : g ≤ 1000000000 := g2
  refine forW_range (fun i S => ∃ ts : List Int, ∃ W s5 s6 s7 s8, ts.length = i ∧ (∀ t ∈ ts, g * L.least ≤ t ∧ t ≤ g * L.most) ∧ Dr Wo a W ∧ S = ⟨[.val (.adr a), .val (encL L), .val (.int m), .val (.int g), .val (.tup (ts.map D.int)), s5, s6, s7, s8], W⟩) ?_ ?_ ⟨[], W2, _, _, _, _, rfl, (fun t h => nomatch h), d1.trans d2, rfl⟩
  · rintro S ⟨ts, W, s5, s6, s7, s8, h1, h2, dr, rfl⟩
    walk_at "pls"
    exact q g ts W g1 g2 (by omega) h2 dr
  · rintro i S K' hi ⟨ts, W, s5, s6, s7, s8, h1, h2, dr, rfl⟩ hK
    try simp only [encL, ↓pC, ↓pOp, ↓pUn, ↓pSl, ↓pPart, ↓pNil, ↓pCons, ↓pTup, ↓pLst, ↓pCallB, ↓pTest, ↓pNot, ↓pAnd, ↓pOr, ↓pAndV, ↓pOrV, ↓pNotV, ↓pIf, ↓pNext, ↓pSeq, ↓pBreak, ↓pCont, ↓pDrop, ↓pRet, ↓pRetN, ↓pIfS, ↓pgNil, ↓pgCons, ↓pgTup, ↓pAsg, ↓pRaise, ↓pCall, ↓pIter, ↓pFor, ↓pLc, ↓pYes, ↓pkOf, ↓pIxK, ↓pTabG, ↓pLenK, ↓pChain, ↓pStore, ↓pAppend, ↓pPop, ↓poLst, ↓poDct, ↓pNewW, ↓pRng1, ↓pRng2, ↓pTry, ↓pTryAs, ↓oEq, ↓oNe, ↓oLen, ↓oSum, ↓oAll, ↓oAny, ↓oIsi, start0, List.map_cons, List.map_nil, List.length_cons, List.length_nil, List.cons_append, List.nil_append, List.getElem?_cons_zero, List.getElem?_cons_succ, List.set_cons_zero, List.set_cons_succ, List.replicate, D.bl.injEq, D.int.injEq, D.str.injEq, D.tup.injEq, D.lst.injEq, exists_eq_left', exists_eq_left, Option.some.injEq, Bool.false_eq_true, if_true, if_false, true_and, and_true, false_and, and_false, isi_int, isi_bool, isi_str, isi_tuple, isi_list, isiT_int, isiT_bool, isiT_str, isiT_tuple, isiT_list, Bool.not_true, Bool.not_false, dat_non, dat_bl, dat_int, dat_str, dat_tup, dat_lst, isInt_non, isInt_bl, isInt_int, isInt_str, isInt_tup, isInt_lst, isBool_non, isBool_bl, isBool_int, isBool_str, isBool_tup, isBool_lst, isStr_non, isStr_bl, isStr_int, isStr_str, isStr_tup, isStr_lst, isTup_non, isTup_bl, isTup_int, isTup_str, isTup_tup, isTup_lst, isLst_non, isLst_bl, isLst_int, isLst_str, isLst_tup, isLst_lst, Nat.reduceAdd, Nat.zero_add, sz_0, sz_1, sz_2, sz_3, sz_4, sz_5, sz_6, sz_7, sz_8, sz_9, sz_10, sz_11, sz_12, List.any_cons, List.any_nil, eqD_tup, eqD_str, eqD_int, eqDs_cons, eqDs_nil, eqDs_cn, eqDs_nc, Bool.or_false, Bool.and_true, at0, at1, at2, at3, at4, good_int, good_bl, good_nil, good_nilL, good_non, eqDs_nil_r, eqDs_nil_l, List.isEmpty_nil, List.isEmpty_cons, Bool.and_false, Bool.or_true, Bool.false_or, Bool.true_or, Bool.false_and, Bool.true_and, encB, wipS_mk, List.foldr_cons, List.foldr_nil, con_updW, ↓ixC_ownD, ↓oIx_tup, ↓oIx_lst, ↓oIx_str, ↓lenC_ownL, ↓lenC_ownD, ↓setC_ownD, putC_adr, Own_lst_inj, Con_own_inj, updW_upd, Nat.reduceSub, Nat.sub_self, ↓itD_lst, ↓itD_tup, ↓oInt_i, ↓oCmp_i, ↓oAdd_i, ↓oAdd_s, ↓oAdd_t, ↓oAdd_l, ↓oNeg_i, ↓o1I_i, ↓o2I_i, ↓oSl_t, ↓oSl_l, ↓oList_t, ↓oList_l, ↓oTuple_t, ↓oTuple_l, ↓oIn_t, ↓oIn_l, ↓oIsN_n, ↓ixC_ownLi, ↓setC_ownLi, ixN20, ixN21, ex_int1, ex_int2, ↓pSet_eq, ↓ixK_tup, ↓ixK_lst, ↓ixK_str, ↓ixK_dct, ↓lenK_tup, ↓lenK_lst, ↓lenK_str, ↓pSetO_eq, ↓pPar_eq, ↓kPar_mk, ↓pGet2, ↓pFrzO_eq, ↓kFrz_lst, ↓kFrz_dct, ↓pPairs_nil, ↓pPairs_cons, ↓poDisp, ↓getC_val, isDc_val, ↓poCat, ↓catD_l, ↓pVarV0, ↓pVarV1, ↓pVarV2, ↓pVarV3, ↓pVarV4, ↓pVarV5, ↓pVarV6, ↓pVarV7, ↓pVarV8, ↓pVarL0, ↓pVarL1, ↓pVarL2, ↓pVarL3, ↓pVarL4, ↓pVarL5, ↓pVarL6, ↓pVarL7, ↓pVarL8, ↓pVarD0, ↓pVarD1, ↓pVarD2, ↓pVarD3, ↓pVarD4, ↓pVarD5, ↓pVarD6, ↓pVarD7, ↓pVarD8, ↓pkVarV0, ↓pkVarV1, ↓pkVarV2, ↓pkVarV3, ↓pkVarV4, ↓pkVarV5, ↓pkVarV6, ↓pkVarV7, ↓pkVarV8, ↓pkVarO0, ↓pkVarO1, ↓pkVarO2, ↓pkVarO3, ↓pkVarO4, ↓pkVarO5, ↓pkVarO6, ↓pkVarO7, ↓pkVarO8, ↓kSetN0, ↓kSetN1, ↓kSetN2, ↓kSetN3, ↓kSetN4, ↓kSetN5, ↓kSetN6, ↓kSetN7, ↓kSetN8, ↓kSetO_N0, ↓kSetO_N1, ↓kSetO_N2, ↓kSetO_N3, ↓kSetO_N4, ↓kSetO_N5, ↓kSetO_N6, ↓kSetO_N7, ↓kSetO_N8, ↓pgNameN0, ↓pgNameN1, ↓pgNameN2, ↓pgNameN3, ↓pgNameN4, ↓pgNameN5, ↓pgNameN6, ↓pgNameN7, ↓pgNameN8, ↓ixS0, ↓ixS1, ↓ixS2, ↓ixS3, ↓ixS4, ↓ixS5, ↓ixS6, ↓ixS7, ↓ixS8, ↓lenS0, ↓lenS1, ↓lenS2, ↓lenS3, ↓lenS4, ↓lenS5, ↓lenS6, ↓lenS7, ↓lenS8, ↓setS0, ↓setS1, ↓setS2, ↓setS3, ↓setS4, ↓setS5, ↓setS6, ↓setS7, ↓setS8, ↓conS0, ↓conS1, ↓conS2, ↓conS3, ↓conS4, ↓conS5, ↓conS6, ↓conS7, ↓conS8, ↓putS0, ↓putS1, ↓putS2, ↓putS3, ↓putS4, ↓putS5, ↓putS6, ↓putS7, ↓putS8]
    refine ⟨.inl ⟨by omega, by omega⟩, .inl ⟨by omega, by omega⟩, ?_⟩
    walk_at "pls"
    refine ⟨a, _, rfl, by omega, by omega, dr.src, fun t W3 t1 t2 d3 => ?_⟩
    have dr3 := dr.trans d3
    walk_at "pls"
    refine ⟨a, _, _, rfl, rfl, by simp, by simp, d3.src, fun x W4 hx d4 => ?_⟩
    obtain ⟨x, rfl, x1, x2⟩ : ∃ n : Int, x = .int n ∧ g * L.least ≤ n ∧ n ≤ g * L.most := by
      simp only [List.mem_cons, List.not_mem_nil, or_false] at hx
      rcases hx with rfl | rfl | rfl | rfl
      · exact ⟨_, rfl, by omega, by omega⟩
      · exact ⟨_, rfl, by omega, by omega⟩
      · exact ⟨_, rfl, by omega, by omega⟩
      · exact ⟨_, rfl, by omega, by omega⟩
    walk_at "pls"
    refine ⟨by show _ ≤ 2 ^ 24; rw [List.length_map]; omega, ?_⟩
    have e : ts.map D.int ++ [.int x] = (ts ++ [x]).map D.int := by simp
    rw [e]
    refine hK _ ⟨ts ++ [x], W4, _, _, _, _, by simp; omega, fun t ht => ?_, dr3.trans d4, rfl⟩
    rcases List.mem_append.mp ht with h | h
    · exact h2 t h
    · rw [List.mem_singleton.mp h]; exact ⟨x1, x2⟩
abbrev s__law_do : Stmt := topS 45
abbrev N__law_do : List Str := ["body", "first", "now", "grid", "statement", "word", "number", "test", "hit", "inner", "more"]
theorem sc__law_do : FnScope N__law_do ["body", "first", "now", "grid"] (defScope s__law_do) := ⟨rfl, rfl, rfl, by decide +kernel, rfl, by decide +kernel, by decide +kernel⟩
theorem okr__law_do {F__law_do : RFn} {F__law_size : RFn} {k : Nat} (T : TopD K mg "_law_do" ["body", "first", "now", "grid"] s__law_do) (c__law_do : CallF P w K mg base "_law_do" 4 k (φR F__law_do)) (c__law_size : CallF P w K mg base "_law_size" 1 k (φR F__law_size)) (m_max : mg "max" = none) :
    CallF P w K mg base "_law_do" 4 (k + 1) (φR (runD 11 (r__law_do F__law_do F__law_size))) :=
  callR_of (N := N__law_do) (k := k) T sc__law_do fun f cdv A outer s H E hr => (rmss_one (rms_for (passes_of rfl) rfl (rmi_seq (rm_var (pv 0))) (rmg_of (vs := [4]) (pg_name (i := 4) sc__law_do.nd rfl (.inl rfl)))
      (rmss_cons (rms_par (i := 5) (j := 6) (rma_cons (rm_ixK (Room.hu1 hr) (rk_var (pv 4)) rm_int (fun _ _ => rfl)) (rma_cons (rm_var (pv 1)) rma_nil)) (fun te h W t => ps_par (i := 5) (j := 6) rfl sc__law_do.nd rfl rfl (by decide) rfl rfl (h W t) (by rfl)))
      (rmss_cons (rms_append (rk_of (rm_ixK (Room.hu1 hr) (rk_var (pv 2)) rm_str (fun _ _ => rfl))) (rm_var (pv 6)) (fun tk te hk he W t => ps_expr (pe_bm PySem.F.plainAttrs_list PySem.F.slot_list_append PySem.F.type_list_append mt_append (hk W t) (pa_cons (he W t) pa_nil))))
      (rmss_cons (rms_set (i := 1) (rm_op of_add (rm_var (pv 1)) (rm_callF c__law_size hr (by rfl) (rma_cons (rm_tup (rma_cons (rm_var (pv 4)) rma_nil)) rma_nil))) (fun te h W t => ps_set (i := 1) sc__law_do.nd rfl (.inl rfl) (h W t)))
      (rmss_one (rms_if (rmt_cmp (of_eq (Room.hu64 hr)) (rm_var (pv 5)) rm_str (nomark _)) (rmss_cons (rms_par (i := 7) (j := 8) (rma_cons (rm_ixK (Room.hu1 hr) (rk_var (pv 4)) rm_int (fun _ _ => rfl)) (rma_cons (rm_ixK (Room.hu1 hr) (rk_var (pv 2)) rm_str (fun _ _ => rfl)) rma_nil)) (fun te h W t => ps_par (i := 7) (j := 8) rfl sc__law_do.nd rfl rfl (by decide) rfl rfl (h W t) (by rfl)))
      (rmss_cons (rms_if (rmt_cmp (of_eq (Room.hu64 hr)) (rm_ixK (Room.hu1 hr) (rk_var (pv 7)) rm_int (fun _ _ => rfl)) rm_str (nomark _)) (rmss_one (rms_set (i := 8) (rm_cmp rf_ge (rm_ixK (Room.hu1 hr) (rk_var (pv 2)) rm_str (fun _ _ => rfl)) rm_int (nomark _)) (fun te h W t => ps_set (i := 8) sc__law_do.nd rfl (.inl rfl) (h W t)))) (rmss_one (rms_if (rmt_cmp (of_eq (Room.hu64 hr)) (rm_ixK (Room.hu1 hr) (rk_var (pv 7)) rm_int (fun _ _ => rfl)) rm_str (nomark _)) (rmss_one (rms_set (i := 8) (rm_cmp rf_gt (rm_ixK (Room.hu1 hr) (rk_var (pv 2)) rm_str (fun _ _ => rfl)) (rm_op rf_mul (rm_var (pv 3)) (rm_ixK (Room.hu1 hr) (rk_var (pv 7)) rm_int (fun _ _ => rfl))) (nomark _)) (fun te h W t => ps_set (i := 8) sc__law_do.nd rfl (.inl rfl) (h W t)))) rmss_nil)))
      (rmss_cons (rms_set (i := 9) (rm_op of_add (rm_op of_add (rm_var (pv 6)) rm_int) (rm_ifExp (rmt_val (rm_var (pv 8))) rm_int (rm_callF c__law_size hr (by rfl) (rma_cons (rm_ixK (Room.hu1 hr) (rk_var (pv 4)) rm_int (fun _ _ => rfl)) rma_nil)))) (fun te h W t => ps_set (i := 9) sc__law_do.nd rfl (.inl rfl) (h W t)))
      (rmss_one (rms_expr (rm_callF c__law_do hr (by rfl) (rma_cons (rm_ifExp (rmt_val (rm_var (pv 8))) (rm_ixK (Room.hu1 hr) (rk_var (pv 4)) rm_int (fun _ _ => rfl)) (rm_ixK (Room.hu1 hr) (rk_var (pv 4)) rm_int (fun _ _ => rfl))) (rma_cons (rm_var (pv 9)) (rma_cons (rm_var (pv 2)) (rma_cons (rm_var (pv 3)) rma_nil)))))))))) (rmss_one (rms_if (rmt_cmp (of_in (Room.hu65 hr)) (rm_var (pv 5)) (rm_tup (rma_cons rm_str (rma_cons rm_str rma_nil))) (by rfl)) (rmss_one (rms_store (rm_cmp (of_eq (Room.hu64 hr)) (rm_var (pv 5)) rm_str (nomark _)) (rk_var (pv 2)) rm_str (fun tv tk ti hv hk hi W t => ps_asg (hv W t) (pg_sub (hk W t) (hi W t) (set_any (Room.hu1 hr)))))) (rmss_one (rms_if (rmt_cmp (of_eq (Room.hu64 hr)) (rm_var (pv 5)) rm_str (nomark _)) (rmss_one (rms_store (rm_op rf_mul (rm_un uf_neg (rm_var (pv 3))) (rm_ixK (Room.hu1 hr) (rk_var (pv 4)) rm_int (fun _ _ => rfl))) (rk_var (pv 2)) rm_str (fun tv tk ti hv hk hi W t => ps_asg (hv W t) (pg_sub (hk W t) (hi W t) (set_any (Room.hu1 hr)))))) (rmss_one (rms_if (rmt_cmp (of_eq (Room.hu64 hr)) (rm_var (pv 5)) rm_str (nomark _)) (rmss_one (rms_store (rm_op rf_sub (rm_ixK (Room.hu1 hr) (rk_var (pv 2)) rm_str (fun _ _ => rfl)) (rm_op rf_mul (rm_var (pv 3)) (rm_ixK (Room.hu1 hr) (rk_var (pv 4)) rm_int (fun _ _ => rfl)))) (rk_var (pv 2)) rm_str (fun tv tk ti hv hk hi W t => ps_asg (hv W t) (pg_sub (hk W t) (hi W t) (set_any (Room.hu1 hr)))))) (rmss_one (rms_if (rmt_cmp (of_eq (Room.hu64 hr)) (rm_var (pv 5)) rm_str (nomark _)) (rmss_one (rms_while whN (passes_of rfl) (rmt_cmp rf_ge (rm_ixK (Room.hu1 hr) (rk_var (pv 2)) rm_str (fun _ _ => rfl)) rm_int (nomark _))
      (rmss_one (rms_store (rm_op rf_sub (rm_ixK (Room.hu1 hr) (rk_var (pv 2)) rm_str (fun _ _ => rfl)) (rm_op rf_mul (rm_var (pv 3)) (rm_ixK (Room.hu1 hr) (rk_var (pv 4)) rm_int (fun _ _ => rfl)))) (rk_var (pv 2)) rm_str (fun tv tk ti hv hk hi W t => ps_asg (hv W t) (pg_sub (hk W t) (hi W t) (set_any (Room.hu1 hr)))))))) (rmss_cons (rms_set (i := 10) (rm_un uf_neg (rm_ixK (Room.hu1 hr) (rk_var (pv 2)) rm_str (fun _ _ => rfl))) (fun te h W t => ps_set (i := 10) sc__law_do.nd rfl (.inl rfl) (h W t)))
      (rmss_cons (rms_if (rmt_cmp (of_ne (Room.hu64 hr)) (rm_var (pv 5)) rm_str (nomark _)) (rmss_one (rms_set (i := 10) (rm_op rf_sub (rm_op rf_mul (rm_var (pv 3)) (rm_ixK (Room.hu1 hr) (rk_var (pv 4)) rm_int (fun _ _ => rfl))) (rm_ifExp (rmt_cmp (of_eq (Room.hu64 hr)) (rm_var (pv 5)) rm_str (nomark _)) (rm_ixK (Room.hu1 hr) (rk_var (pv 2)) rm_str (fun _ _ => rfl)) rm_int)) (fun te h W t => ps_set (i := 10) sc__law_do.nd rfl (.inl rfl) (h W t)))) rmss_nil)
      (rmss_cons (rms_set (i := 10) (rm_callB (rf_max2 rfl) (by rfl) m_max (by decide +kernel) (rma_cons rm_int (rma_cons (rm_var (pv 10)) rma_nil))) (fun te h W t => ps_set (i := 10) sc__law_do.nd rfl (.inl rfl) (h W t)))
      (rmss_one (rms_asg (rm_tup (rma_cons (rm_op of_add (rm_ixK (Room.hu1 hr) (rk_var (pv 2)) rm_str (fun _ _ => rfl)) (rm_var (pv 10))) (rma_cons (rm_op of_add (rm_ixK (Room.hu1 hr) (rk_var (pv 2)) rm_str (fun _ _ => rfl)) (rm_var (pv 10))) rma_nil))) (rmg_tup rfl (rmgs_cons (rmg_sub (vs := []) (rk_var (pv 2)) rm_str (set_any (Room.hu1 hr))) (rmgs_cons (rmg_sub (vs := []) (rk_var (pv 2)) rm_str (set_any (Room.hu1 hr))) rmgs_nil)))))))))))))))))))))))
abbrev s__law_round : Stmt := topS 46
abbrev N__law_round : List Str := ["loop", "late", "flag", "time", "grid", "now"]
theorem sc__law_round : FnScope N__law_round ["loop", "late", "flag", "time", "grid"] (defScope s__law_round) := ⟨rfl, rfl, rfl, by decide +kernel, rfl, by decide +kernel, by decide +kernel⟩
theorem ok__law_round  {k : Nat}  (T : TopD K mg "_law_round" ["loop", "late", "flag", "time", "grid"] s__law_round) (c__law_do : CallF P w K mg base "_law_do" 4 k (φR (F__law_do 9)))  :
    CallF P w K mg base "_law_round" 5 (k + 1) (φ__law_round) := by
  refine call_of (N := N__law_round) (k := k) T sc__law_round fun f cdv A outer s H E hr => ⟨_, (pmss_cons (pms_set (i := 5) (fun W t => ps_set (i := 5) sc__law_round.nd rfl (.inl rfl) ((pm_newW (pmo_disp (pmp_cons pm_str (pm_var (pv 3)) (pmp_cons pm_str (pm_op od_add (pm_var (pv 1)) (pm_var (pv 3))) (pmp_cons pm_str (pm_var (pv 2)) (pmp_cons pm_str (pm_newW (pmo_lst pma_nil)) pmp_nil)))))) W t)))
      (pmss_cons (pms_expr (pm_callF c__law_do hr (by rfl) (pma_cons (pm_ixK (Room.hu1 hr) (pk_var (pv 0)) pm_int (fun _ _ => rfl)) (pma_cons pm_int (pma_cons (pm_var (pv 5)) (pma_cons (pm_var (pv 4)) pma_nil))))))
      (pmss_one (pms_ret (pm_fgt (pm_tup (pma_cons (pm_ixK (Room.hu1 hr) (pk_var (pv 5)) pm_str (fun _ _ => rfl)) (pma_cons (pm_ixK (Room.hu1 hr) (pk_var (pv 5)) pm_str (fun _ _ => rfl)) (pma_cons (pm_ixK (Room.hu1 hr) (pk_var (pv 5)) pm_str (fun _ _ => rfl)) (pma_cons (pm_frzW (pm_ixK (Room.hu1 hr) (pk_var (pv 5)) pm_str (fun _ _ => rfl))) pma_nil)))))))))), ?_⟩
  rintro ds Wo Q E' - ⟨x, rfl, hx, q⟩
  have hr := fun (W : Wt) (a l : Addr) (h : l ≠ a) => law_round_do W h x hx
  cases x with | mk L l0 f0 t0 g0 =>
  try simp only [encRd, ↓pC, ↓pOp, ↓pUn, ↓pSl, ↓pPart, ↓pNil, ↓pCons, ↓pTup, ↓pLst, ↓pCallB, ↓pTest, ↓pNot, ↓pAnd, ↓pOr, ↓pAndV, ↓pOrV, ↓pNotV, ↓pIf, ↓pNext, ↓pSeq, ↓pBreak, ↓pCont, ↓pDrop, ↓pRet, ↓pRetN, ↓pIfS, ↓pgNil, ↓pgCons, ↓pgTup, ↓pAsg, ↓pRaise, ↓pCall, ↓pIter, ↓pFor, ↓pLc, ↓pYes, ↓pkOf, ↓pIxK, ↓pTabG, ↓pLenK, ↓pChain, ↓pStore, ↓pAppend, ↓pPop, ↓poLst, ↓poDct, ↓pNewW, ↓pRng1, ↓pRng2, ↓pTry, ↓pTryAs, ↓oEq, ↓oNe, ↓oLen, ↓oSum, ↓oAll, ↓oAny, ↓oIsi, start0, List.map_cons, List.map_nil, List.length_cons, List.length_nil, List.cons_append, List.nil_append, List.getElem?_cons_zero, List.getElem?_cons_succ, List.set_cons_zero, List.set_cons_succ, List.replicate, D.bl.injEq, D.int.injEq, D.str.injEq, D.tup.injEq, D.lst.injEq, exists_eq_left', exists_eq_left, Option.some.injEq, Bool.false_eq_true, if_true, if_false, true_and, and_true, false_and, and_false, isi_int, isi_bool, isi_str, isi_tuple, isi_list, isiT_int, isiT_bool, isiT_str, isiT_tuple, isiT_list, Bool.not_true, Bool.not_false, dat_non, dat_bl, dat_int, dat_str, dat_tup, dat_lst, isInt_non, isInt_bl, isInt_int, isInt_str, isInt_tup, isInt_lst, isBool_non, isBool_bl, isBool_int, isBool_str, isBool_tup, isBool_lst, isStr_non, isStr_bl, isStr_int, isStr_str, isStr_tup, isStr_lst, isTup_non, isTup_bl, isTup_int, isTup_str, isTup_tup, isTup_lst, isLst_non, isLst_bl, isLst_int, isLst_str, isLst_tup, isLst_lst, Nat.reduceAdd, Nat.zero_add, sz_0, sz_1, sz_2, sz_3, sz_4, sz_5, sz_6, sz_7, sz_8, sz_9, sz_10, sz_11, sz_12, List.any_cons, List.any_nil, eqD_tup, eqD_str, eqD_int, eqDs_cons, eqDs_nil, eqDs_cn, eqDs_nc, Bool.or_false, Bool.and_true, at0, at1, at2, at3, at4, good_int, good_bl, good_nil, good_nilL, good_non, eqDs_nil_r, eqDs_nil_l, List.isEmpty_nil, List.isEmpty_cons, Bool.and_false, Bool.or_true, Bool.false_or, Bool.true_or, Bool.false_and, Bool.true_and, encB, wipS_mk, List.foldr_cons, List.foldr_nil, con_updW, ↓ixC_ownD, ↓oIx_tup, ↓oIx_lst, ↓oIx_str, ↓lenC_ownL, ↓lenC_ownD, ↓setC_ownD, putC_adr, Own_lst_inj, Con_own_inj, updW_upd, Nat.reduceSub, Nat.sub_self, ↓itD_lst, ↓itD_tup, ↓oInt_i, ↓oCmp_i, ↓oAdd_i, ↓oAdd_s, ↓oAdd_t, ↓oAdd_l, ↓oNeg_i, ↓o1I_i, ↓o2I_i, ↓oSl_t, ↓oSl_l, ↓oList_t, ↓oList_l, ↓oTuple_t, ↓oTuple_l, ↓oIn_t, ↓oIn_l, ↓oIsN_n, ↓ixC_ownLi, ↓setC_ownLi, ixN20, ixN21, ex_int1, ex_int2, ↓pSet_eq, ↓ixK_tup, ↓ixK_lst, ↓ixK_str, ↓ixK_dct, ↓lenK_tup, ↓lenK_lst, ↓lenK_str, ↓pSetO_eq, ↓pPar_eq, ↓kPar_mk, ↓pGet2, ↓pFrzO_eq, ↓kFrz_lst, ↓kFrz_dct, ↓pPairs_nil, ↓pPairs_cons, ↓poDisp, ↓getC_val, isDc_val, ↓poCat, ↓catD_l, ↓pVarV0, ↓pVarV1, ↓pVarV2, ↓pVarV3, ↓pVarV4, ↓pVarV5, ↓pVarL0, ↓pVarL1, ↓pVarL2, ↓pVarL3, ↓pVarL4, ↓pVarL5, ↓pVarD0, ↓pVarD1, ↓pVarD2, ↓pVarD3, ↓pVarD4, ↓pVarD5, ↓pkVarV0, ↓pkVarV1, ↓pkVarV2, ↓pkVarV3, ↓pkVarV4, ↓pkVarV5, ↓pkVarO0, ↓pkVarO1, ↓pkVarO2, ↓pkVarO3, ↓pkVarO4, ↓pkVarO5, ↓kSetN0, ↓kSetN1, ↓kSetN2, ↓kSetN3, ↓kSetN4, ↓kSetN5, ↓kSetO_N0, ↓kSetO_N1, ↓kSetO_N2, ↓kSetO_N3, ↓kSetO_N4, ↓kSetO_N5, ↓pgNameN0, ↓pgNameN1, ↓pgNameN2, ↓pgNameN3, ↓pgNameN4, ↓pgNameN5, ↓ixS0, ↓ixS1, ↓ixS2, ↓ixS3, ↓ixS4, ↓ixS5, ↓lenS0, ↓lenS1, ↓lenS2, ↓lenS3, ↓lenS4, ↓lenS5, ↓setS0, ↓setS1, ↓setS2, ↓setS3, ↓setS4, ↓setS5, ↓conS0, ↓conS1, ↓conS2, ↓conS3, ↓conS4, ↓conS5, ↓putS0, ↓putS1, ↓putS2, ↓putS3, ↓putS4, ↓putS5]
  intro l hl
  refine ⟨by decide, by simp [keyK], fun a ha => ?_⟩
  have hla : l ≠ a := fun z => by subst z; rw [updW_self] at ha; cases ha
  have hr := hr Wo a l hla
  simp only [now_merge, encL, con_tup, ixC_tup, oIx_tup, at3, Option.some.injEq, exists_eq_left']
  rw [φR_rt hr]
  generalize rdR ⟨L, l0, f0, t0, g0⟩ = r at q hr ⊢
  try simp only [pFgt, pFrzW, now_a, nowV, get_gone, get_late, get_flag, get_done, D.adr.injEq, keyK, Option.isSome_some, ↓pC, ↓pOp, ↓pUn, ↓pSl, ↓pPart, ↓pNil, ↓pCons, ↓pTup, ↓pLst, ↓pCallB, ↓pTest, ↓pNot, ↓pAnd, ↓pOr, ↓pAndV, ↓pOrV, ↓pNotV, ↓pIf, ↓pNext, ↓pSeq, ↓pBreak, ↓pCont, ↓pDrop, ↓pRet, ↓pRetN, ↓pIfS, ↓pgNil, ↓pgCons, ↓pgTup, ↓pAsg, ↓pRaise, ↓pCall, ↓pIter, ↓pFor, ↓pLc, ↓pYes, ↓pkOf, ↓pIxK, ↓pTabG, ↓pLenK, ↓pChain, ↓pStore, ↓pAppend, ↓pPop, ↓poLst, ↓poDct, ↓pNewW, ↓pRng1, ↓pRng2, ↓pTry, ↓pTryAs, ↓oEq, ↓oNe, ↓oLen, ↓oSum, ↓oAll, ↓oAny, ↓oIsi, start0, List.map_cons, List.map_nil, List.length_cons, List.length_nil, List.cons_append, List.nil_append, List.getElem?_cons_zero, List.getElem?_cons_succ, List.set_cons_zero, List.set_cons_succ, List.replicate, D.bl.injEq, D.int.injEq, D.str.injEq, D.tup.injEq, D.lst.injEq, exists_eq_left', exists_eq_left, Option.some.injEq, Bool.false_eq_true, if_true, if_false, true_and, and_true, false_and, and_false, isi_int, isi_bool, isi_str, isi_tuple, isi_list, isiT_int, isiT_bool, isiT_str, isiT_tuple, isiT_list, Bool.not_true, Bool.not_false, dat_non, dat_bl, dat_int, dat_str, dat_tup, dat_lst, isInt_non, isInt_bl, isInt_int, isInt_str, isInt_tup, isInt_lst, isBool_non, isBool_bl, isBool_int, isBool_str, isBool_tup, isBool_lst, isStr_non, isStr_bl, isStr_int, isStr_str, isStr_tup, isStr_lst, isTup_non, isTup_bl, isTup_int, isTup_str, isTup_tup, isTup_lst, isLst_non, isLst_bl, isLst_int, isLst_str, isLst_tup, isLst_lst, Nat.reduceAdd, Nat.zero_add, sz_0, sz_1, sz_2, sz_3, sz_4, sz_5, sz_6, sz_7, sz_8, sz_9, sz_10, sz_11, sz_12, List.any_cons, List.any_nil, eqD_tup, eqD_str, eqD_int, eqDs_cons, eqDs_nil, eqDs_cn, eqDs_nc, Bool.or_false, Bool.and_true, at0, at1, at2, at3, at4, good_int, good_bl, good_nil, good_nilL, good_non, eqDs_nil_r, eqDs_nil_l, List.isEmpty_nil, List.isEmpty_cons, Bool.and_false, Bool.or_true, Bool.false_or, Bool.true_or, Bool.false_and, Bool.true_and, encB, wipS_mk, List.foldr_cons, List.foldr_nil, con_updW, ↓ixC_ownD, ↓oIx_tup, ↓oIx_lst, ↓oIx_str, ↓lenC_ownL, ↓lenC_ownD, ↓setC_ownD, putC_adr, Own_lst_inj, Con_own_inj, updW_upd, Nat.reduceSub, Nat.sub_self, ↓itD_lst, ↓itD_tup, ↓oInt_i, ↓oCmp_i, ↓oAdd_i, ↓oAdd_s, ↓oAdd_t, ↓oAdd_l, ↓oNeg_i, ↓o1I_i, ↓o2I_i, ↓oSl_t, ↓oSl_l, ↓oList_t, ↓oList_l, ↓oTuple_t, ↓oTuple_l, ↓oIn_t, ↓oIn_l, ↓oIsN_n, ↓ixC_ownLi, ↓setC_ownLi, ixN20, ixN21, ex_int1, ex_int2, ↓pSet_eq, ↓ixK_tup, ↓ixK_lst, ↓ixK_str, ↓ixK_dct, ↓lenK_tup, ↓lenK_lst, ↓lenK_str, ↓pSetO_eq, ↓pPar_eq, ↓kPar_mk, ↓pGet2, ↓pFrzO_eq, ↓kFrz_lst, ↓kFrz_dct, ↓pPairs_nil, ↓pPairs_cons, ↓poDisp, ↓getC_val, isDc_val, ↓poCat, ↓catD_l, ↓pVarV0, ↓pVarV1, ↓pVarV2, ↓pVarV3, ↓pVarV4, ↓pVarV5, ↓pVarL0, ↓pVarL1, ↓pVarL2, ↓pVarL3, ↓pVarL4, ↓pVarL5, ↓pVarD0, ↓pVarD1, ↓pVarD2, ↓pVarD3, ↓pVarD4, ↓pVarD5, ↓pkVarV0, ↓pkVarV1, ↓pkVarV2, ↓pkVarV3, ↓pkVarV4, ↓pkVarV5, ↓pkVarO0, ↓pkVarO1, ↓pkVarO2, ↓pkVarO3, ↓pkVarO4, ↓pkVarO5, ↓kSetN0, ↓kSetN1, ↓kSetN2, ↓kSetN3, ↓kSetN4, ↓kSetN5, ↓kSetO_N0, ↓kSetO_N1, ↓kSetO_N2, ↓kSetO_N3, ↓kSetO_N4, ↓kSetO_N5, ↓pgNameN0, ↓pgNameN1, ↓pgNameN2, ↓pgNameN3, ↓pgNameN4, ↓pgNameN5, ↓ixS0, ↓ixS1, ↓ixS2, ↓ixS3, ↓ixS4, ↓ixS5, ↓lenS0, ↓lenS1, ↓lenS2, ↓lenS3, ↓lenS4, ↓lenS5, ↓setS0, ↓setS1, ↓setS2, ↓setS3, ↓setS4, ↓setS5, ↓conS0, ↓conS1, ↓conS2, ↓conS3, ↓conS4, ↓conS5, ↓putS0, ↓putS1, ↓putS2, ↓putS3, ↓putS4, ↓putS5]
  have hw : now Wo a l r l = some (.lst (r.nums.map D.int)) := by
    unfold now updW
    rw [if_neg hla, if_pos rfl]
  refine ⟨_, _, rfl, hw, Wo, fun b o hb => ?_, q⟩
  have ha' : Wo a = none := by simpa [updW, Ne.symm hla] using ha
  have nb : b ≠ a := fun z => by subst z; rw [ha'] at hb; cases hb
  have nl : b ≠ l := fun z => by subst z; rw [hl] at hb; cases hb
  simp only [dropW, now, updW, if_neg nb, if_neg nl]
  exact hb
abbrev s__law_moments : Stmt := topS 47
abbrev N__law_moments : List Str := ["loop", "row", "grid", "moment", "late", "flag", "told", "lates", "every", "time", "gap", "numbers", "number"]
theorem sc__law_moments : FnScope N__law_moments ["loop", "row"] (defScope s__law_moments) := ⟨rfl, rfl, rfl, by decide +kernel, rfl, by decide +kernel, by decide +kernel⟩
theorem okr__law_moments {F__law_round : RFn} {k : Nat} (T : TopD K mg "_law_moments" ["loop", "row"] s__law_moments) (m_list : mg "list" = none) (m_sorted : mg "sorted" = none) (c__law_round : CallF P w K mg base "_law_round" 5 k (φR F__law_round)) :
    CallF P w K mg base "_law_moments" 2 (k + 1) (φR (runD 13 (r__law_moments F__law_round))) :=
  callR_of (N := N__law_moments) (k := k) T sc__law_moments fun f cdv A outer s H E hr => (rmss_cons (rms_asg (rm_tup (rma_cons (rm_ixK (Room.hu1 hr) (rk_var (pv 1)) rm_int (fun _ _ => rfl)) (rma_cons rm_int (rma_cons (rm_op rf_mul (rm_un uf_neg (rm_ixK (Room.hu1 hr) (rk_var (pv 1)) rm_int (fun _ _ => rfl))) (rm_ixK (Room.hu1 hr) (rk_var (pv 0)) rm_int (fun _ _ => rfl))) (rma_cons rm_bl rma_nil))))) (rmg_tup rfl (rmgs_cons (rmg_of (vs := [2, 3, 4, 5]) (pg_name (i := 2) sc__law_moments.nd rfl (.inl rfl))) (rmgs_cons (rmg_of (vs := [2, 3, 4, 5]) (pg_name (i := 3) sc__law_moments.nd rfl (.inl rfl))) (rmgs_cons (rmg_of (vs := [2, 3, 4, 5]) (pg_name (i := 4) sc__law_moments.nd rfl (.inl rfl))) (rmgs_cons (rmg_of (vs := [2, 3, 4, 5]) (pg_name (i := 5) sc__law_moments.nd rfl (.inl rfl))) rmgs_nil))))))
      (rmss_cons (rms_parX3 (i := 6) (j := 7) (l := 8) (rmx_own (rmo_lst (rma_cons rm_int rma_nil)) (rmx_own (rmo_lst (rma_cons (rm_var (pv 4)) rma_nil)) (rmx_own rmo_dct rmx_nil))) (fun te h => ps_par3 (i := 6) (j := 7) (l := 8) rfl sc__law_moments.nd rfl rfl rfl (by decide) (by decide) (by decide) rfl rfl rfl h (by rfl)))
      (rmss_cons (rms_for (passes_of rfl) rfl (rmi_seq (rm_ixK (Room.hu1 hr) (rk_var (pv 1)) rm_int (fun _ _ => rfl))) (rmg_of (vs := [9]) (pg_name (i := 9) sc__law_moments.nd rfl (.inl rfl)))
      (rmss_cons (rms_asg (rm_callF c__law_round hr (by rfl) (rma_cons (rm_var (pv 0)) (rma_cons (rm_var (pv 4)) (rma_cons (rm_var (pv 5)) (rma_cons (rm_var (pv 9)) (rma_cons (rm_var (pv 2)) rma_nil)))))) (rmg_tup rfl (rmgs_cons (rmg_of (vs := [10, 4, 5, 11]) (pg_name (i := 10) sc__law_moments.nd rfl (.inl rfl))) (rmgs_cons (rmg_of (vs := [10, 4, 5, 11]) (pg_name (i := 4) sc__law_moments.nd rfl (.inl rfl))) (rmgs_cons (rmg_of (vs := [10, 4, 5, 11]) (pg_name (i := 5) sc__law_moments.nd rfl (.inl rfl))) (rmgs_cons (rmg_of (vs := [10, 4, 5, 11]) (pg_name (i := 11) sc__law_moments.nd rfl (.inl rfl))) rmgs_nil))))))
      (rmss_cons (rms_set (i := 3) (rm_op of_add (rm_var (pv 3)) (rm_var (pv 10))) (fun te h W t => ps_set (i := 3) sc__law_moments.nd rfl (.inl rfl) (h W t)))
      (rmss_cons (rms_append (rk_var (pv 6)) (rm_var (pv 3)) (fun tk te hk he W t => ps_expr (pe_bm PySem.F.plainAttrs_list PySem.F.slot_list_append PySem.F.type_list_append mt_append (hk W t) (pa_cons (he W t) pa_nil))))
      (rmss_cons (rms_append (rk_var (pv 7)) (rm_var (pv 4)) (fun tk te hk he W t => ps_expr (pe_bm PySem.F.plainAttrs_list PySem.F.slot_list_append PySem.F.type_list_append mt_append (hk W t) (pa_cons (he W t) pa_nil))))
      (rmss_one (rms_for (passes_of rfl) rfl (rmi_seq (rm_var (pv 11))) (rmg_of (vs := [12]) (pg_name (i := 12) sc__law_moments.nd rfl (.inl rfl)))
      (rmss_one (rms_store rm_bl (rk_var (pv 8)) (rm_var (pv 12)) (fun tv tk ti hv hk hi W t => ps_asg (hv W t) (pg_sub (hk W t) (hi W t) (set_any (Room.hu1 hr)))))))))))))
      (rmss_one (rms_ret (rm_tup (rma_cons (rm_var (pv 6)) (rma_cons (rm_var (pv 7)) (rma_cons (rm_callB cf_sorted (by rfl) m_sorted (by decide +kernel) (rma_cons (rm_callTy (cf_listA rfl) (by rfl) m_list boot_list (rma_cons (rm_var (pv 8)) rma_nil)) rma_nil)) rma_nil)))))))))
abbrev s_law : Stmt := topS 48
abbrev N_law : List Str := ["script", "k", "source", "turn", "loop", "again", "row", "told", "lates", "numbers", "odd"]
theorem sc_law : FnScope N_law ["script"] (defScope s_law) := ⟨rfl, rfl, rfl, by decide +kernel, rfl, by decide +kernel, by decide +kernel⟩
theorem ok_law {C_InvalidLoop C_InvalidRow : Addr} {k : Nat}  {f : Addr} {fd : FuncData} (F : Fun K "law" "law" s_law f fd) (c_starts : CallF P w K mg base "starts" 2 k (φR (F_starts C_InvalidLoop C_InvalidRow))) (c_done : CallF P w K mg base "done" 2 k (φR (F_done C_InvalidLoop C_InvalidRow))) (c_latenesses : CallF P w K mg base "latenesses" 2 k (φR (F_latenesses C_InvalidLoop C_InvalidRow))) (m_range : mg "range" = none) (m_min : mg "min" = none) (m_len : mg "len" = none) (m_isinstance : mg "isinstance" = none) (m_list : mg "list" = none) (c__law_moments : CallF P w K mg base "_law_moments" 2 k (φR F__law_moments)) (c__law_row : CallF P w K mg base "_law_row" 3 k (φ__law_row)) (c__law_loop : CallF P w K mg base "_law_loop" 1 k (φ__law_loop)) (c__law_source : CallF P w K mg base "_law_source" 2 k (φ__law_source))  :
    FnOk P w K mg base (L2.CX P w) (k + 1) f fd ["script"] (spP K 1 (φ_law)) := by
  refine ok_of (N := N_law) (k := k) F sc_law fun cdv A outer s H E hr => ⟨_, (pmss_cons (pms_for (passes_of rfl) rfl (pmi_range1 (by rfl) m_range (pma_cons (pm_op od_add pm_int (pm_callB (cd_min2 rfl) (by rfl) m_min (by decide +kernel) (pma_cons (pm_lenK (by rfl) m_len (pk_var (pv 0))) (pma_cons pm_int pma_nil)))) pma_nil)) (pmg_of (vs := [1]) (pg_name (i := 1) sc_law.nd rfl (.inl rfl)))
      (pmss_cons (pms_set (i := 2) (fun W t => ps_set (i := 2) sc_law.nd rfl (.inl rfl) ((pm_callF c__law_source hr (by rfl) (pma_cons (pm_var (pv 0)) (pma_cons (pm_var (pv 1)) pma_nil))) W t)))
      (pmss_one (pms_for (passes_of rfl) rfl (pmi_range1 (by rfl) m_range (pma_cons pm_int pma_nil)) (pmg_of (vs := [3]) (pg_name (i := 3) sc_law.nd rfl (.inl rfl)))
      (pmss_cons (pms_set (i := 4) (fun W t => ps_set (i := 4) sc_law.nd rfl (.inl rfl) ((pm_callF c__law_loop hr (by rfl) (pma_cons (pm_var (pv 2)) pma_nil)) W t)))
      (pmss_one (pms_for (passes_of rfl) rfl (pmi_range1 (by rfl) m_range (pma_cons pm_int pma_nil)) (pmg_of (vs := [5]) (pg_name (i := 5) sc_law.nd rfl (.inl rfl)))
      (pmss_cons (pms_set (i := 6) (fun W t => ps_set (i := 6) sc_law.nd rfl (.inl rfl) ((pm_callF c__law_row hr (by rfl) (pma_cons (pm_var (pv 2)) (pma_cons (pm_var (pv 4)) (pma_cons pm_int pma_nil)))) W t)))
      (pmss_cons (pms_asg (pm_callF c__law_moments hr (by rfl) (pma_cons (pm_var (pv 4)) (pma_cons (pm_var (pv 6)) pma_nil))) (pmg_tup rfl (pmgs_cons (pmg_of (vs := [7, 8, 9]) (pg_name (i := 7) sc_law.nd rfl (.inl rfl))) (pmgs_cons (pmg_of (vs := [7, 8, 9]) (pg_name (i := 8) sc_law.nd rfl (.inl rfl))) (pmgs_cons (pmg_of (vs := [7, 8, 9]) (pg_name (i := 9) sc_law.nd rfl (.inl rfl))) pmgs_nil)))))
      (pmss_cons (pms_if (pmt_w (pmw_or (pmt_cmp (od_ne (Room.hu64 hr)) (pm_callF c_starts hr (by rfl) (pma_cons (pm_var (pv 4)) (pma_cons (pm_var (pv 6)) pma_nil))) (pm_var (pv 7)) (nomark _)) (pmw_or (pmt_cmp (od_ne (Room.hu64 hr)) (pm_callF c_latenesses hr (by rfl) (pma_cons (pm_var (pv 4)) (pma_cons (pm_var (pv 6)) pma_nil))) (pm_var (pv 8)) (nomark _)) (pmw_or1 (pmt_cmp (od_ne (Room.hu64 hr)) (pm_callF c_done hr (by rfl) (pma_cons (pm_var (pv 4)) (pma_cons (pm_var (pv 6)) pma_nil))) (pm_var (pv 9)) (nomark _)))))) (pmss_one (pms_ret pm_bl)) pmss_nil)
      (pmss_one (pms_if (pmt_w (pmw_or (pmt_not (pmt_val (pm_callB cd_isi (by rfl) m_isinstance (by decide +kernel) (pma_cons (pm_callF c_starts hr (by rfl) (pma_cons (pm_var (pv 4)) (pma_cons (pm_var (pv 6)) pma_nil))) (pma_cons (pm_ty (by rfl) m_list boot_list) pma_nil))))) (pmw_or1 (pmt_not (pmt_val (pm_callB cd_isi (by rfl) m_isinstance (by decide +kernel) (pma_cons (pm_callF c_done hr (by rfl) (pma_cons (pm_var (pv 4)) (pma_cons (pm_var (pv 6)) pma_nil))) (pma_cons (pm_ty (by rfl) m_list boot_list) pma_nil)))))))) (pmss_one (pms_ret pm_bl)) pmss_nil))))))))))))
      (pmss_cons (pms_set (i := 10) (fun W t => ps_set (i := 10) sc_law.nd rfl (.inl rfl) ((pm_tup (pma_cons pm_int (pma_cons pm_int (pma_cons pm_int (pma_cons (pm_tup (pma_cons (pm_tup (pma_cons pm_str (pma_cons pm_int pma_nil))) (pma_cons (pm_tup (pma_cons pm_str (pma_cons (pm_tup (pma_cons pm_str (pma_cons pm_int pma_nil))) (pma_cons (pm_tup (pma_cons (pm_tup (pma_cons pm_str (pma_cons pm_int pma_nil))) (pma_cons (pm_tup (pma_cons pm_str pma_nil)) pma_nil))) (pma_cons (pm_tup (pma_cons (pm_tup (pma_cons pm_str (pma_cons pm_int pma_nil))) (pma_cons (pm_tup (pma_cons pm_str (pma_cons pm_int pma_nil))) pma_nil))) pma_nil))))) (pma_cons (pm_tup (pma_cons pm_str pma_nil)) pma_nil)))) pma_nil))))) W t)))
      (pmss_cons (pms_set (i := 6) (fun W t => ps_set (i := 6) sc_law.nd rfl (.inl rfl) ((pm_tup (pma_cons pm_int (pma_cons (pm_tup (pma_cons pm_int (pma_cons pm_int (pma_cons pm_int pma_nil)))) pma_nil))) W t)))
      (pmss_cons (pms_if (pmt_w (pmw_or (pmt_cmp (od_ne (Room.hu64 hr)) (pm_callF c_starts hr (by rfl) (pma_cons (pm_var (pv 10)) (pma_cons (pm_var (pv 6)) pma_nil))) (pm_lst (pma_cons pm_int (pma_cons pm_int (pma_cons pm_int (pma_cons pm_int pma_nil))))) (nomark _)) (pmw_or1 (pmt_cmp (od_ne (Room.hu64 hr)) (pm_callF c_latenesses hr (by rfl) (pma_cons (pm_var (pv 10)) (pma_cons (pm_var (pv 6)) pma_nil))) (pm_lst (pma_cons (pm_un ud_neg pm_int) (pma_cons pm_int (pma_cons pm_int (pma_cons pm_int pma_nil))))) (nomark _))))) (pmss_one (pms_ret pm_bl)) pmss_nil)
      (pmss_cons (pms_if (pmt_cmp (od_ne (Room.hu64 hr)) (pm_callF c_done hr (by rfl) (pma_cons (pm_var (pv 10)) (pma_cons (pm_var (pv 6)) pma_nil))) (pm_lst (pma_cons pm_int (pma_cons pm_int (pma_cons pm_int (pma_cons pm_int (pma_cons pm_int pma_nil)))))) (nomark _)) (pmss_one (pms_ret pm_bl)) pmss_nil)
      (pmss_one (pms_ret (pm_cmp (od_eq (Room.hu64 hr)) (pm_callF c_starts hr (by rfl) (pma_cons (pm_tup (pma_cons pm_int (pma_cons pm_int (pma_cons pm_int (pma_cons (pm_tup (pma_cons (pm_tup (pma_cons pm_str (pma_cons pm_int pma_nil))) pma_nil)) pma_nil))))) (pma_cons (pm_tup (pma_cons (pm_op od_pow pm_int pm_int) (pma_cons (pm_tup (pma_cons pm_int pma_nil)) pma_nil))) pma_nil))) (pm_lst (pma_cons pm_int (pma_cons (pm_op od_add (pm_op od_mul pm_int (pm_op od_pow pm_int pm_int)) pm_int) pma_nil))) (nomark _))))))))), ?_⟩
  rintro ds Wo Q E' - ⟨xs, rfl, h63, q⟩
  walk_at "pls"
  refine ⟨by split <;> omega, ?_⟩
  refine forW_range (fun _ S => ∃ W s1 s2 s3 s4 s5 s6 s7 s8 s9 s10, S = ⟨[.val (.lst (xs.map D.int)), s1, s2, s3, s4, s5, s6, s7, s8, s9, s10], W⟩) ?_ ?_ ⟨_, _, _, _, _, _, _, _, _, _, _, rfl⟩
  · rintro S ⟨W, s1, s2, s3, s4, s5, s6, s7, s8, s9, s10, rfl⟩
    have ok1 : okL ⟨0, 5, 2, [.rest 4, .ite (.late 1) [.set 0, .up] [.wait 1, .ahead 2], .until]⟩ = true := by decide
    have r1 : rowL ⟨0, 5, 2, [.rest 4, .ite (.late 1) [.set 0, .up] [.wait 1, .ahead 2], .until]⟩ 2 [9, 0, 10] := ⟨by decide, by decide, by decide, by decide⟩
    have ok2 : okL ⟨0, 8, 0, [.wait 8]⟩ = true := by decide
    have r2 : rowL ⟨0, 8, 0, [.wait 8]⟩ (10 ^ 30) [1] := ⟨by decide, by decide, by decide, by decide⟩
    have f1 : ∀ W, _ := fun W => starts_is (r := [0, 9, 17, 27]) C_InvalidLoop C_InvalidRow W ok1 r1 (by decide +kernel)
    have f2 : ∀ W, _ := fun W => lates_is (r := [-4, 0, 0, 0]) C_InvalidLoop C_InvalidRow W ok1 r1 (by decide +kernel)
    have f3 : ∀ W, _ := fun W => done_is (r := [0, 1, 2, 3, 6]) C_InvalidLoop C_InvalidRow W ok1 r1 (by decide +kernel)
    have f4 : ∀ W, _ := fun W => starts_is (r := [0, 8 * 10 ^ 30 + 1]) C_InvalidLoop C_InvalidRow W ok2 r2 (by decide +kernel)
    simp only [encRow, encL, encB, encSs, encS, encT, List.map_cons, List.map_nil] at f1 f2 f3 f4
    have f4 : ∀ W, F_starts C_InvalidLoop C_InvalidRow [.tup [.int 0, .int 8, .int 0, .tup [.tup [.str "wait", .int 8]]], .tup [.int (10 ^ Int.toNat 30), .tup [.int 1]]] W = .rt (.lst [.int 0, .int (8 * 10 ^ Int.toNat 30 + 1)]) W := f4
    try simp only [φR_rt (f1 _), φR_rt (f2 _), φR_rt (f3 _), φR_rt (f4 _), ↓pC, ↓pOp, ↓pUn, ↓pSl, ↓pPart, ↓pNil, ↓pCons, ↓pTup, ↓pLst, ↓pCallB, ↓pTest, ↓pNot, ↓pAnd, ↓pOr, ↓pAndV, ↓pOrV, ↓pNotV, ↓pIf, ↓pNext, ↓pSeq, ↓pBreak, ↓pCont, ↓pDrop, ↓pRet, ↓pRetN, ↓pIfS, ↓pgNil, ↓pgCons, ↓pgTup, ↓pAsg, ↓pRaise, ↓pCall, ↓pIter, ↓pFor, ↓pLc, ↓pYes, ↓pkOf, ↓pIxK, ↓pTabG, ↓pLenK, ↓pChain, ↓pStore, ↓pAppend, ↓pPop, ↓poLst, ↓poDct, ↓pNewW, ↓pRng1, ↓pRng2, ↓pTry, ↓pTryAs, ↓oEq, ↓oNe, ↓oLen, ↓oSum, ↓oAll, ↓oAny, ↓oIsi, start0, List.map_cons, List.map_nil, List.length_cons, List.length_nil, List.cons_append, List.nil_append, List.getElem?_cons_zero, List.getElem?_cons_succ, List.set_cons_zero, List.set_cons_succ, List.replicate, D.bl.injEq, D.int.injEq, D.str.injEq, D.tup.injEq, D.lst.injEq, exists_eq_left', exists_eq_left, Option.some.injEq, Bool.false_eq_true, if_true, if_false, true_and, and_true, false_and, and_false, isi_int, isi_bool, isi_str, isi_tuple, isi_list, isiT_int, isiT_bool, isiT_str, isiT_tuple, isiT_list, Bool.not_true, Bool.not_false, dat_non, dat_bl, dat_int, dat_str, dat_tup, dat_lst, isInt_non, isInt_bl, isInt_int, isInt_str, isInt_tup, isInt_lst, isBool_non, isBool_bl, isBool_int, isBool_str, isBool_tup, isBool_lst, isStr_non, isStr_bl, isStr_int, isStr_str, isStr_tup, isStr_lst, isTup_non, isTup_bl, isTup_int, isTup_str, isTup_tup, isTup_lst, isLst_non, isLst_bl, isLst_int, isLst_str, isLst_tup, isLst_lst, Nat.reduceAdd, Nat.zero_add, sz_0, sz_1, sz_2, sz_3, sz_4, sz_5, sz_6, sz_7, sz_8, sz_9, sz_10, sz_11, sz_12, List.any_cons, List.any_nil, eqD_tup, eqD_str, eqD_int, eqDs_cons, eqDs_nil, eqDs_cn, eqDs_nc, Bool.or_false, Bool.and_true, at0, at1, at2, at3, at4, good_int, good_bl, good_nil, good_nilL, good_non, eqDs_nil_r, eqDs_nil_l, List.isEmpty_nil, List.isEmpty_cons, Bool.and_false, Bool.or_true, Bool.false_or, Bool.true_or, Bool.false_and, Bool.true_and, encB, wipS_mk, List.foldr_cons, List.foldr_nil, con_updW, ↓ixC_ownD, ↓oIx_tup, ↓oIx_lst, ↓oIx_str, ↓lenC_ownL, ↓lenC_ownD, ↓setC_ownD, putC_adr, Own_lst_inj, Con_own_inj, updW_upd, Nat.reduceSub, Nat.sub_self, ↓itD_lst, ↓itD_tup, ↓oInt_i, ↓oCmp_i, ↓oAdd_i, ↓oAdd_s, ↓oAdd_t, ↓oAdd_l, ↓oNeg_i, ↓o1I_i, ↓o2I_i, ↓oSl_t, ↓oSl_l, ↓oList_t, ↓oList_l, ↓oTuple_t, ↓oTuple_l, ↓oIn_t, ↓oIn_l, ↓oIsN_n, ↓ixC_ownLi, ↓setC_ownLi, ixN20, ixN21, ex_int1, ex_int2, ↓pSet_eq, ↓ixK_tup, ↓ixK_lst, ↓ixK_str, ↓ixK_dct, ↓lenK_tup, ↓lenK_lst, ↓lenK_str, ↓pSetO_eq, ↓pPar_eq, ↓kPar_mk, ↓pGet2, ↓pFrzO_eq, ↓kFrz_lst, ↓kFrz_dct, ↓pPairs_nil, ↓pPairs_cons, ↓poDisp, ↓getC_val, isDc_val, ↓poCat, ↓catD_l, ↓pVarV0, ↓pVarV1, ↓pVarV2, ↓pVarV3, ↓pVarV4, ↓pVarV5, ↓pVarV6, ↓pVarV7, ↓pVarV8, ↓pVarV9, ↓pVarV10, ↓pVarL0, ↓pVarL1, ↓pVarL2, ↓pVarL3, ↓pVarL4, ↓pVarL5, ↓pVarL6, ↓pVarL7, ↓pVarL8, ↓pVarL9, ↓pVarL10, ↓pVarD0, ↓pVarD1, ↓pVarD2, ↓pVarD3, ↓pVarD4, ↓pVarD5, ↓pVarD6, ↓pVarD7, ↓pVarD8, ↓pVarD9, ↓pVarD10, ↓pkVarV0, ↓pkVarV1, ↓pkVarV2, ↓pkVarV3, ↓pkVarV4, ↓pkVarV5, ↓pkVarV6, ↓pkVarV7, ↓pkVarV8, ↓pkVarV9, ↓pkVarV10, ↓pkVarO0, ↓pkVarO1, ↓pkVarO2, ↓pkVarO3, ↓pkVarO4, ↓pkVarO5, ↓pkVarO6, ↓pkVarO7, ↓pkVarO8, ↓pkVarO9, ↓pkVarO10, ↓kSetN0, ↓kSetN1, ↓kSetN2, ↓kSetN3, ↓kSetN4, ↓kSetN5, ↓kSetN6, ↓kSetN7, ↓kSetN8, ↓kSetN9, ↓kSetN10, ↓kSetO_N0, ↓kSetO_N1, ↓kSetO_N2, ↓kSetO_N3, ↓kSetO_N4, ↓kSetO_N5, ↓kSetO_N6, ↓kSetO_N7, ↓kSetO_N8, ↓kSetO_N9, ↓kSetO_N10, ↓pgNameN0, ↓pgNameN1, ↓pgNameN2, ↓pgNameN3, ↓pgNameN4, ↓pgNameN5, ↓pgNameN6, ↓pgNameN7, ↓pgNameN8, ↓pgNameN9, ↓pgNameN10, ↓ixS0, ↓ixS1, ↓ixS2, ↓ixS3, ↓ixS4, ↓ixS5, ↓ixS6, ↓ixS7, ↓ixS8, ↓ixS9, ↓ixS10, ↓lenS0, ↓lenS1, ↓lenS2, ↓lenS3, ↓lenS4, ↓lenS5, ↓lenS6, ↓lenS7, ↓lenS8, ↓lenS9, ↓lenS10, ↓setS0, ↓setS1, ↓setS2, ↓setS3, ↓setS4, ↓setS5, ↓setS6, ↓setS7, ↓setS8, ↓setS9, ↓setS10, ↓conS0, ↓conS1, ↓conS2, ↓conS3, ↓conS4, ↓conS5, ↓conS6, ↓conS7, ↓conS8, ↓conS9, ↓conS10, ↓putS0, ↓putS1, ↓putS2, ↓putS3, ↓putS4, ↓putS5, ↓putS6, ↓putS7, ↓putS8, ↓putS9, ↓putS10]
    refine ⟨by decide +kernel, by decide +kernel, ?_⟩
    rw [show eqD (.lst [.int 0, .int 9, .int 17, .int 27]) (.lst [.int 0, .int 9, .int 17, .int 27]) = true by decide +kernel, if_neg (by decide)]
    refine ⟨by decide +kernel, by decide +kernel, ?_⟩
    rw [show eqD (.lst [.int (-4), .int 0, .int 0, .int 0]) (.lst [.int (-4), .int 0, .int 0, .int 0]) = true by decide +kernel, if_neg (by decide)]
    refine ⟨by decide +kernel, by decide +kernel, ?_⟩
    rw [show eqD (.lst [.int 0, .int 1, .int 2, .int 3, .int 6]) (.lst [.int 0, .int 1, .int 2, .int 3, .int 6]) = true by decide +kernel, if_neg (by decide)]
    refine ⟨by unfold CPow; decide, by unfold CPow; decide, by unfold CMul; decide, by decide +kernel, by decide +kernel, ?_⟩
    rw [show eqD (.lst [.int 0, .int (8 * 10 ^ Int.toNat 30 + 1)]) (.lst [.int 0, .int (8 * 10 ^ Int.toNat 30 + 1)]) = true by decide +kernel]
    exact q _
  · rintro k S K' hk ⟨W, s1, s2, s3, s4, s5, s6, s7, s8, s9, s10, rfl⟩ hK
    walk_at "pls"
    refine ⟨xs, _, rfl, by omega, by split at hk <;> omega, fun a W1 d1 _ => ?_⟩
    refine ⟨by omega, ?_⟩
    refine forW_range (fun _ S => ∃ W s3 s4 s5 s6 s7 s8 s9 s10, Src W a ∧ S = ⟨[.val (.lst (xs.map D.int)), .val (.int (0 + k)), .val (.adr a), s3, s4, s5, s6, s7, s8, s9, s10], W⟩) ?_ ?_ ⟨W1, _, _, _, _, _, _, _, _, d1.src, rfl⟩
    · rintro S ⟨W, s3, s4, s5, s6, s7, s8, s9, s10, _, rfl⟩
      exact hK _ ⟨_, _, _, _, _, _, _, _, _, _, _, rfl⟩
    · rintro t S K2 ht ⟨W, s3, s4, s5, s6, s7, s8, s9, s10, hs, rfl⟩ hK2
      walk_at "pls"
      refine ⟨a, rfl, hs, fun L W2 hL d2 => ?_⟩
      refine ⟨by omega, ?_⟩
      refine forW_range (fun _ S => ∃ W s5 s6 s7 s8 s9 s10, Src W a ∧ S = ⟨[.val (.lst (xs.map D.int)), .val (.int (0 + k)), .val (.adr a), .val (.int (0 + t)), .val (encL L), s5, s6, s7, s8, s9, s10], W⟩) ?_ ?_ ⟨W2, _, _, _, _, _, _, d2.src, rfl⟩
      · rintro S ⟨W, s5, s6, s7, s8, s9, s10, hs, rfl⟩
        exact hK2 _ ⟨_, _, _, _, _, _, _, _, _, hs, rfl⟩
      · rintro j S K3 hj ⟨W, s5, s6, s7, s8, s9, s10, hs, rfl⟩ hK3
        walk_at "pls"
        refine ⟨a, L, _, rfl, hL.1, by omega, by omega, hs, fun g ts W3 g1 g2 h20 hts d3 => ?_⟩
        have hr : rowL L g ts := ⟨g1, by omega, by omega, hts⟩
        have f1 := F__law_moments_ok W3 hL.1 hr (by omega)
        have f2 := F_starts_ok C_InvalidLoop C_InvalidRow W3 hL.1 hr
        have f3 := F_latenesses_ok C_InvalidLoop C_InvalidRow W3 hL.1 hr
        have f4 := F_done_ok C_InvalidLoop C_InvalidRow W3 hL.1 hr
        simp only [encRow] at f1 f2 f3 f4
        try simp only [φR_rt f1, φR_rt f2, φR_rt f3, φR_rt f4, ↓pC, ↓pOp, ↓pUn, ↓pSl, ↓pPart, ↓pNil, ↓pCons, ↓pTup, ↓pLst, ↓pCallB, ↓pTest, ↓pNot, ↓pAnd, ↓pOr, ↓pAndV, ↓pOrV, ↓pNotV, ↓pIf, ↓pNext, ↓pSeq, ↓pBreak, ↓pCont, ↓pDrop, ↓pRet, ↓pRetN, ↓pIfS, ↓pgNil, ↓pgCons, ↓pgTup, ↓pAsg, ↓pRaise, ↓pCall, ↓pIter, ↓pFor, ↓pLc, ↓pYes, ↓pkOf, ↓pIxK, ↓pTabG, ↓pLenK, ↓pChain, ↓pStore, ↓pAppend, ↓pPop, ↓poLst, ↓poDct, ↓pNewW, ↓pRng1, ↓pRng2, ↓pTry, ↓pTryAs, ↓oEq, ↓oNe, ↓oLen, ↓oSum, ↓oAll, ↓oAny, ↓oIsi, start0, List.map_cons, List.map_nil, List.length_cons, List.length_nil, List.cons_append, List.nil_append, List.getElem?_cons_zero, List.getElem?_cons_succ, List.set_cons_zero, List.set_cons_succ, List.replicate, D.bl.injEq, D.int.injEq, D.str.injEq, D.tup.injEq, D.lst.injEq, exists_eq_left', exists_eq_left, Option.some.injEq, Bool.false_eq_true, if_true, if_false, true_and, and_true, false_and, and_false, isi_int, isi_bool, isi_str, isi_tuple, isi_list, isiT_int, isiT_bool, isiT_str, isiT_tuple, isiT_list, Bool.not_true, Bool.not_false, dat_non, dat_bl, dat_int, dat_str, dat_tup, dat_lst, isInt_non, isInt_bl, isInt_int, isInt_str, isInt_tup, isInt_lst, isBool_non, isBool_bl, isBool_int, isBool_str, isBool_tup, isBool_lst, isStr_non, isStr_bl, isStr_int, isStr_str, isStr_tup, isStr_lst, isTup_non, isTup_bl, isTup_int, isTup_str, isTup_tup, isTup_lst, isLst_non, isLst_bl, isLst_int, isLst_str, isLst_tup, isLst_lst, Nat.reduceAdd, Nat.zero_add, sz_0, sz_1, sz_2, sz_3, sz_4, sz_5, sz_6, sz_7, sz_8, sz_9, sz_10, sz_11, sz_12, List.any_cons, List.any_nil, eqD_tup, eqD_str, eqD_int, eqDs_cons, eqDs_nil, eqDs_cn, eqDs_nc, Bool.or_false, Bool.and_true, at0, at1, at2, at3, at4, good_int, good_bl, good_nil, good_nilL, good_non, eqDs_nil_r, eqDs_nil_l, List.isEmpty_nil, List.isEmpty_cons, Bool.and_false, Bool.or_true, Bool.false_or, Bool.true_or, Bool.false_and, Bool.true_and, encB, wipS_mk, List.foldr_cons, List.foldr_nil, con_updW, ↓ixC_ownD, ↓oIx_tup, ↓oIx_lst, ↓oIx_str, ↓lenC_ownL, ↓lenC_ownD, ↓setC_ownD, putC_adr, Own_lst_inj, Con_own_inj, updW_upd, Nat.reduceSub, Nat.sub_self, ↓itD_lst, ↓itD_tup, ↓oInt_i, ↓oCmp_i, ↓oAdd_i, ↓oAdd_s, ↓oAdd_t, ↓oAdd_l, ↓oNeg_i, ↓o1I_i, ↓o2I_i, ↓oSl_t, ↓oSl_l, ↓oList_t, ↓oList_l, ↓oTuple_t, ↓oTuple_l, ↓oIn_t, ↓oIn_l, ↓oIsN_n, ↓ixC_ownLi, ↓setC_ownLi, ixN20, ixN21, ex_int1, ex_int2, ↓pSet_eq, ↓ixK_tup, ↓ixK_lst, ↓ixK_str, ↓ixK_dct, ↓lenK_tup, ↓lenK_lst, ↓lenK_str, ↓pSetO_eq, ↓pPar_eq, ↓kPar_mk, ↓pGet2, ↓pFrzO_eq, ↓kFrz_lst, ↓kFrz_dct, ↓pPairs_nil, ↓pPairs_cons, ↓poDisp, ↓getC_val, isDc_val, ↓poCat, ↓catD_l, ↓pVarV0, ↓pVarV1, ↓pVarV2, ↓pVarV3, ↓pVarV4, ↓pVarV5, ↓pVarV6, ↓pVarV7, ↓pVarV8, ↓pVarV9, ↓pVarV10, ↓pVarL0, ↓pVarL1, ↓pVarL2, ↓pVarL3, ↓pVarL4, ↓pVarL5, ↓pVarL6, ↓pVarL7, ↓pVarL8, ↓pVarL9, ↓pVarL10, ↓pVarD0, ↓pVarD1, ↓pVarD2, ↓pVarD3, ↓pVarD4, ↓pVarD5, ↓pVarD6, ↓pVarD7, ↓pVarD8, ↓pVarD9, ↓pVarD10, ↓pkVarV0, ↓pkVarV1, ↓pkVarV2, ↓pkVarV3, ↓pkVarV4, ↓pkVarV5, ↓pkVarV6, ↓pkVarV7, ↓pkVarV8, ↓pkVarV9, ↓pkVarV10, ↓pkVarO0, ↓pkVarO1, ↓pkVarO2, ↓pkVarO3, ↓pkVarO4, ↓pkVarO5, ↓pkVarO6, ↓pkVarO7, ↓pkVarO8, ↓pkVarO9, ↓pkVarO10, ↓kSetN0, ↓kSetN1, ↓kSetN2, ↓kSetN3, ↓kSetN4, ↓kSetN5, ↓kSetN6, ↓kSetN7, ↓kSetN8, ↓kSetN9, ↓kSetN10, ↓kSetO_N0, ↓kSetO_N1, ↓kSetO_N2, ↓kSetO_N3, ↓kSetO_N4, ↓kSetO_N5, ↓kSetO_N6, ↓kSetO_N7, ↓kSetO_N8, ↓kSetO_N9, ↓kSetO_N10, ↓pgNameN0, ↓pgNameN1, ↓pgNameN2, ↓pgNameN3, ↓pgNameN4, ↓pgNameN5, ↓pgNameN6, ↓pgNameN7, ↓pgNameN8, ↓pgNameN9, ↓pgNameN10, ↓ixS0, ↓ixS1, ↓ixS2, ↓ixS3, ↓ixS4, ↓ixS5, ↓ixS6, ↓ixS7, ↓ixS8, ↓ixS9, ↓ixS10, ↓lenS0, ↓lenS1, ↓lenS2, ↓lenS3, ↓lenS4, ↓lenS5, ↓lenS6, ↓lenS7, ↓lenS8, ↓lenS9, ↓lenS10, ↓setS0, ↓setS1, ↓setS2, ↓setS3, ↓setS4, ↓setS5, ↓setS6, ↓setS7, ↓setS8, ↓setS9, ↓setS10, ↓conS0, ↓conS1, ↓conS2, ↓conS3, ↓conS4, ↓conS5, ↓conS6, ↓conS7, ↓conS8, ↓conS9, ↓conS10, ↓putS0, ↓putS1, ↓putS2, ↓putS3, ↓putS4, ↓putS5, ↓putS6, ↓putS7, ↓putS8, ↓putS9, ↓putS10]
        refine ⟨rfl, _, _, rfl, _, _, rfl, _, _, rfl, rfl, ?_⟩
        have w1 := good_intsL Sx.m (allX L g ts)
        have w2 := good_intsL Sx.l (allX L g ts)
        have w3 := good_intsL id (doneL L g ts)
        simp only [id] at w3
        rw [eqD_good w1, eqD_good w2, eqD_good w3]
        try simp only [w1, w2, w3, φR_rt f2, φR_rt f4, ↓pC, ↓pOp, ↓pUn, ↓pSl, ↓pPart, ↓pNil, ↓pCons, ↓pTup, ↓pLst, ↓pCallB, ↓pTest, ↓pNot, ↓pAnd, ↓pOr, ↓pAndV, ↓pOrV, ↓pNotV, ↓pIf, ↓pNext, ↓pSeq, ↓pBreak, ↓pCont, ↓pDrop, ↓pRet, ↓pRetN, ↓pIfS, ↓pgNil, ↓pgCons, ↓pgTup, ↓pAsg, ↓pRaise, ↓pCall, ↓pIter, ↓pFor, ↓pLc, ↓pYes, ↓pkOf, ↓pIxK, ↓pTabG, ↓pLenK, ↓pChain, ↓pStore, ↓pAppend, ↓pPop, ↓poLst, ↓poDct, ↓pNewW, ↓pRng1, ↓pRng2, ↓pTry, ↓pTryAs, ↓oEq, ↓oNe, ↓oLen, ↓oSum, ↓oAll, ↓oAny, ↓oIsi, start0, List.map_cons, List.map_nil, List.length_cons, List.length_nil, List.cons_append, List.nil_append, List.getElem?_cons_zero, List.getElem?_cons_succ, List.set_cons_zero, List.set_cons_succ, List.replicate, D.bl.injEq, D.int.injEq, D.str.injEq, D.tup.injEq, D.lst.injEq, exists_eq_left', exists_eq_left, Option.some.injEq, Bool.false_eq_true, if_true, if_false, true_and, and_true, false_and, and_false, isi_int, isi_bool, isi_str, isi_tuple, isi_list, isiT_int, isiT_bool, isiT_str, isiT_tuple, isiT_list, Bool.not_true, Bool.not_false, dat_non, dat_bl, dat_int, dat_str, dat_tup, dat_lst, isInt_non, isInt_bl, isInt_int, isInt_str, isInt_tup, isInt_lst, isBool_non, isBool_bl, isBool_int, isBool_str, isBool_tup, isBool_lst, isStr_non, isStr_bl, isStr_int, isStr_str, isStr_tup, isStr_lst, isTup_non, isTup_bl, isTup_int, isTup_str, isTup_tup, isTup_lst, isLst_non, isLst_bl, isLst_int, isLst_str, isLst_tup, isLst_lst, Nat.reduceAdd, Nat.zero_add, sz_0, sz_1, sz_2, sz_3, sz_4, sz_5, sz_6, sz_7, sz_8, sz_9, sz_10, sz_11, sz_12, List.any_cons, List.any_nil, eqD_tup, eqD_str, eqD_int, eqDs_cons, eqDs_nil, eqDs_cn, eqDs_nc, Bool.or_false, Bool.and_true, at0, at1, at2, at3, at4, good_int, good_bl, good_nil, good_nilL, good_non, eqDs_nil_r, eqDs_nil_l, List.isEmpty_nil, List.isEmpty_cons, Bool.and_false, Bool.or_true, Bool.false_or, Bool.true_or, Bool.false_and, Bool.true_and, encB, wipS_mk, List.foldr_cons, List.foldr_nil, con_updW, ↓ixC_ownD, ↓oIx_tup, ↓oIx_lst, ↓oIx_str, ↓lenC_ownL, ↓lenC_ownD, ↓setC_ownD, putC_adr, Own_lst_inj, Con_own_inj, updW_upd, Nat.reduceSub, Nat.sub_self, ↓itD_lst, ↓itD_tup, ↓oInt_i, ↓oCmp_i, ↓oAdd_i, ↓oAdd_s, ↓oAdd_t, ↓oAdd_l, ↓oNeg_i, ↓o1I_i, ↓o2I_i, ↓oSl_t, ↓oSl_l, ↓oList_t, ↓oList_l, ↓oTuple_t, ↓oTuple_l, ↓oIn_t, ↓oIn_l, ↓oIsN_n, ↓ixC_ownLi, ↓setC_ownLi, ixN20, ixN21, ex_int1, ex_int2, ↓pSet_eq, ↓ixK_tup, ↓ixK_lst, ↓ixK_str, ↓ixK_dct, ↓lenK_tup, ↓lenK_lst, ↓lenK_str, ↓pSetO_eq, ↓pPar_eq, ↓kPar_mk, ↓pGet2, ↓pFrzO_eq, ↓kFrz_lst, ↓kFrz_dct, ↓pPairs_nil, ↓pPairs_cons, ↓poDisp, ↓getC_val, isDc_val, ↓poCat, ↓catD_l, ↓pVarV0, ↓pVarV1, ↓pVarV2, ↓pVarV3, ↓pVarV4, ↓pVarV5, ↓pVarV6, ↓pVarV7, ↓pVarV8, ↓pVarV9, ↓pVarV10, ↓pVarL0, ↓pVarL1, ↓pVarL2, ↓pVarL3, ↓pVarL4, ↓pVarL5, ↓pVarL6, ↓pVarL7, ↓pVarL8, ↓pVarL9, ↓pVarL10, ↓pVarD0, ↓pVarD1, ↓pVarD2, ↓pVarD3, ↓pVarD4, ↓pVarD5, ↓pVarD6, ↓pVarD7, ↓pVarD8, ↓pVarD9, ↓pVarD10, ↓pkVarV0, ↓pkVarV1, ↓pkVarV2, ↓pkVarV3, ↓pkVarV4, ↓pkVarV5, ↓pkVarV6, ↓pkVarV7, ↓pkVarV8, ↓pkVarV9, ↓pkVarV10, ↓pkVarO0, ↓pkVarO1, ↓pkVarO2, ↓pkVarO3, ↓pkVarO4, ↓pkVarO5, ↓pkVarO6, ↓pkVarO7, ↓pkVarO8, ↓pkVarO9, ↓pkVarO10, ↓kSetN0, ↓kSetN1, ↓kSetN2, ↓kSetN3, ↓kSetN4, ↓kSetN5, ↓kSetN6, ↓kSetN7, ↓kSetN8, ↓kSetN9, ↓kSetN10, ↓kSetO_N0, ↓kSetO_N1, ↓kSetO_N2, ↓kSetO_N3, ↓kSetO_N4, ↓kSetO_N5, ↓kSetO_N6, ↓kSetO_N7, ↓kSetO_N8, ↓kSetO_N9, ↓kSetO_N10, ↓pgNameN0, ↓pgNameN1, ↓pgNameN2, ↓pgNameN3, ↓pgNameN4, ↓pgNameN5, ↓pgNameN6, ↓pgNameN7, ↓pgNameN8, ↓pgNameN9, ↓pgNameN10, ↓ixS0, ↓ixS1, ↓ixS2, ↓ixS3, ↓ixS4, ↓ixS5, ↓ixS6, ↓ixS7, ↓ixS8, ↓ixS9, ↓ixS10, ↓lenS0, ↓lenS1, ↓lenS2, ↓lenS3, ↓lenS4, ↓lenS5, ↓lenS6, ↓lenS7, ↓lenS8, ↓lenS9, ↓lenS10, ↓setS0, ↓setS1, ↓setS2, ↓setS3, ↓setS4, ↓setS5, ↓setS6, ↓setS7, ↓setS8, ↓setS9, ↓setS10, ↓conS0, ↓conS1, ↓conS2, ↓conS3, ↓conS4, ↓conS5, ↓conS6, ↓conS7, ↓conS8, ↓conS9, ↓conS10, ↓putS0, ↓putS1, ↓putS2, ↓putS3, ↓putS4, ↓putS5, ↓putS6, ↓putS7, ↓putS8, ↓putS9, ↓putS10]
        exact hK3 _ ⟨_, _, _, _, _, _, _, d3.src, rfl⟩
end
theorem top_mk {P : Program} {w : World} {K : PySem.W.Frag} {h : Heap} {mg : Str → Option Value} {fa f_law f_starts f_moments f_states_of f_round_done f_body_done f_bodies_of f_listed f_holds f_marked f_waited f_begun f_need_row f_is_good_row f_is_time f_is_number f_need_loop f_is_loop f_is_body f_is_statement f_is_counted f_is_test f_is_worded f_done f_latenesses f__law_moments f__law_round f__law_do f__law_size f__law_row f__law_draw f__law_of f__law_loop f__law_bent f__law_simple f__law_known f__law_body f__law_source C_InvalidLoop C_InvalidRow p_LEAST_NUMBERS : Addr} {od0 an0 od1 an1 od2 an2 od3 an3 od4 an4 od5 an5 od6 an6 od7 an7 od8 an8 od9 an9 od10 an10 od11 an11 od12 an12 od13 an13 od14 an14 od15 an15 od16 an16 od17 an17 od18 an18 od19 an19 od20 an20 od21 an21 od22 an22 od23 an23 od24 an24 od25 an25 od26 an26 od27 an27 od28 an28 od29 an29 od30 an30 od31 an31 od32 an32 od33 an33 od34 an34 od35 an35 od36 an36 od37 an37 : Option Addr} {sl0 sl1 sl2 sl3 sl4 sl5 sl6 sl7 sl8 sl9 sl10 sl11 sl12 sl13 sl14 sl15 sl16 sl17 sl18 sl19 sl20 sl21 sl22 sl23 sl24 sl25 sl26 sl27 sl28 sl29 sl30 sl31 sl32 sl33 sl34 sl35 sl36 sl37 : Array (Option Value)} {oc0 kV0 dc0 pm0 cd0 ct0 oc1 kV1 dc1 pm1 cd1 ct1 oc2 kV2 dc2 pm2 cd2 ct2 oc3 kV3 dc3 pm3 cd3 ct3 oc4 kV4 dc4 pm4 cd4 ct4 oc5 kV5 dc5 pm5 cd5 ct5 oc6 kV6 dc6 pm6 cd6 ct6 oc7 kV7 dc7 pm7 cd7 ct7 oc8 kV8 dc8 pm8 cd8 ct8 oc9 kV9 dc9 pm9 cd9 ct9 oc10 kV10 dc10 pm10 cd10 ct10 oc11 kV11 dc11 pm11 cd11 ct11 oc12 kV12 dc12 pm12 cd12 ct12 oc13 kV13 dc13 pm13 cd13 ct13 oc14 kV14 dc14 pm14 cd14 ct14 oc15 kV15 dc15 pm15 cd15 ct15 oc16 kV16 dc16 pm16 cd16 ct16 oc17 kV17 dc17 pm17 cd17 ct17 oc18 kV18 dc18 pm18 cd18 ct18 oc19 kV19 dc19 pm19 cd19 ct19 oc20 kV20 dc20 pm20 cd20 ct20 oc21 kV21 dc21 pm21 cd21 ct21 oc22 kV22 dc22 pm22 cd22 ct22 oc23 kV23 dc23 pm23 cd23 ct23 oc24 kV24 dc24 pm24 cd24 ct24 oc25 kV25 dc25 pm25 cd25 ct25 oc26 kV26 dc26 pm26 cd26 ct26 oc27 kV27 dc27 pm27 cd27 ct27 oc28 kV28 dc28 pm28 cd28 ct28 oc29 kV29 dc29 pm29 cd29 ct29 oc30 kV30 dc30 pm30 cd30 ct30 oc31 kV31 dc31 pm31 cd31 ct31 oc32 kV32 dc32 pm32 cd32 ct32 oc33 kV33 dc33 pm33 cd33 ct33 oc34 kV34 dc34 pm34 cd34 ct34 oc35 kV35 dc35 pm35 cd35 ct35 oc36 kV36 dc36 pm36 cd36 ct36 oc37 kV37 dc37 pm37 cd37 ct37 : Value} {es_LEAST_NUMBERS : Array DictEntry} {n_LEAST_NUMBERS : Nat} {t_MOST_STATEMENTS t_MOST_TIME t_MOST_DEEP te0_LEAST_NUMBERS te1_LEAST_NUMBERS te2_LEAST_NUMBERS te3_LEAST_NUMBERS te4_LEAST_NUMBERS te5_LEAST_NUMBERS : Tok} (X : K.In h) (G : h.Ns mainGlobals mg) (hfa : mg "law" = some (.ref fa))
    (a_law : PySem.W.nsIn K mainGlobals "law" = some (some (.ref f_law)))
    (l_law : K.lookup f_law = some ⟨oc0, od0, .func (PySem.W.fnOf "law" "law" (defArgs s_law) (defBody s_law) (defScope s_law) .none kV0 dc0 pm0 an0 cd0 ct0), sl0⟩)
    (co_law : PySem.W.codeIn K cd0 "law" = true)
    (k_law : PySem.W.keepIn K (.ref f_law) = true)
    (a_starts : PySem.W.nsIn K mainGlobals "starts" = some (some (.ref f_starts)))
    (l_starts : K.lookup f_starts = some ⟨oc1, od1, .func (PySem.W.fnOf "starts" "starts" (defArgs s_starts) (defBody s_starts) (defScope s_starts) .none kV1 dc1 pm1 an1 cd1 ct1), sl1⟩)
    (co_starts : PySem.W.codeIn K cd1 "starts" = true)
    (k_starts : PySem.W.keepIn K (.ref f_starts) = true)
    (a_moments : PySem.W.nsIn K mainGlobals "moments" = some (some (.ref f_moments)))
    (l_moments : K.lookup f_moments = some ⟨oc2, od2, .func (PySem.W.fnOf "moments" "moments" (defArgs s_moments) (defBody s_moments) (defScope s_moments) .none kV2 dc2 pm2 an2 cd2 ct2), sl2⟩)
    (co_moments : PySem.W.codeIn K cd2 "moments" = true)
    (k_moments : PySem.W.keepIn K (.ref f_moments) = true)
    (a_states_of : PySem.W.nsIn K mainGlobals "states_of" = some (some (.ref f_states_of)))
    (l_states_of : K.lookup f_states_of = some ⟨oc3, od3, .func (PySem.W.fnOf "states_of" "states_of" (defArgs s_states_of) (defBody s_states_of) (defScope s_states_of) .none kV3 dc3 pm3 an3 cd3 ct3), sl3⟩)
    (co_states_of : PySem.W.codeIn K cd3 "states_of" = true)
    (k_states_of : PySem.W.keepIn K (.ref f_states_of) = true)
    (a_round_done : PySem.W.nsIn K mainGlobals "round_done" = some (some (.ref f_round_done)))
    (l_round_done : K.lookup f_round_done = some ⟨oc4, od4, .func (PySem.W.fnOf "round_done" "round_done" (defArgs s_round_done) (defBody s_round_done) (defScope s_round_done) .none kV4 dc4 pm4 an4 cd4 ct4), sl4⟩)
    (co_round_done : PySem.W.codeIn K cd4 "round_done" = true)
    (k_round_done : PySem.W.keepIn K (.ref f_round_done) = true)
    (a_body_done : PySem.W.nsIn K mainGlobals "body_done" = some (some (.ref f_body_done)))
    (l_body_done : K.lookup f_body_done = some ⟨oc5, od5, .func (PySem.W.fnOf "body_done" "body_done" (defArgs s_body_done) (defBody s_body_done) (defScope s_body_done) .none kV5 dc5 pm5 an5 cd5 ct5), sl5⟩)
    (co_body_done : PySem.W.codeIn K cd5 "body_done" = true)
    (k_body_done : PySem.W.keepIn K (.ref f_body_done) = true)
    (a_bodies_of : PySem.W.nsIn K mainGlobals "bodies_of" = some (some (.ref f_bodies_of)))
    (l_bodies_of : K.lookup f_bodies_of = some ⟨oc6, od6, .func (PySem.W.fnOf "bodies_of" "bodies_of" (defArgs s_bodies_of) (defBody s_bodies_of) (defScope s_bodies_of) .none kV6 dc6 pm6 an6 cd6 ct6), sl6⟩)
    (co_bodies_of : PySem.W.codeIn K cd6 "bodies_of" = true)
    (k_bodies_of : PySem.W.keepIn K (.ref f_bodies_of) = true)
    (z_list : PySem.W.nsIn K mainGlobals "list" = some none)
    (a_listed : PySem.W.nsIn K mainGlobals "listed" = some (some (.ref f_listed)))
    (l_listed : K.lookup f_listed = some ⟨oc7, od7, .func (PySem.W.fnOf "listed" "listed" (defArgs s_listed) (defBody s_listed) (defScope s_listed) .none kV7 dc7 pm7 an7 cd7 ct7), sl7⟩)
    (co_listed : PySem.W.codeIn K cd7 "listed" = true)
    (k_listed : PySem.W.keepIn K (.ref f_listed) = true)
    (z_len : PySem.W.nsIn K mainGlobals "len" = some none)
    (z_sum : PySem.W.nsIn K mainGlobals "sum" = some none)
    (a_holds : PySem.W.nsIn K mainGlobals "holds" = some (some (.ref f_holds)))
    (l_holds : K.lookup f_holds = some ⟨oc8, od8, .func (PySem.W.fnOf "holds" "holds" (defArgs s_holds) (defBody s_holds) (defScope s_holds) .none kV8 dc8 pm8 an8 cd8 ct8), sl8⟩)
    (co_holds : PySem.W.codeIn K cd8 "holds" = true)
    (k_holds : PySem.W.keepIn K (.ref f_holds) = true)
    (a_marked : PySem.W.nsIn K mainGlobals "marked" = some (some (.ref f_marked)))
    (l_marked : K.lookup f_marked = some ⟨oc9, od9, .func (PySem.W.fnOf "marked" "marked" (defArgs s_marked) (defBody s_marked) (defScope s_marked) .none kV9 dc9 pm9 an9 cd9 ct9), sl9⟩)
    (co_marked : PySem.W.codeIn K cd9 "marked" = true)
    (k_marked : PySem.W.keepIn K (.ref f_marked) = true)
    (a_waited : PySem.W.nsIn K mainGlobals "waited" = some (some (.ref f_waited)))
    (l_waited : K.lookup f_waited = some ⟨oc10, od10, .func (PySem.W.fnOf "waited" "waited" (defArgs s_waited) (defBody s_waited) (defScope s_waited) .none kV10 dc10 pm10 an10 cd10 ct10), sl10⟩)
    (co_waited : PySem.W.codeIn K cd10 "waited" = true)
    (k_waited : PySem.W.keepIn K (.ref f_waited) = true)
    (z_max : PySem.W.nsIn K mainGlobals "max" = some none)
    (a_begun : PySem.W.nsIn K mainGlobals "begun" = some (some (.ref f_begun)))
    (l_begun : K.lookup f_begun = some ⟨oc11, od11, .func (PySem.W.fnOf "begun" "begun" (defArgs s_begun) (defBody s_begun) (defScope s_begun) .none kV11 dc11 pm11 an11 cd11 ct11), sl11⟩)
    (co_begun : PySem.W.codeIn K cd11 "begun" = true)
    (k_begun : PySem.W.keepIn K (.ref f_begun) = true)
    (a_need_row : PySem.W.nsIn K mainGlobals "need_row" = some (some (.ref f_need_row)))
    (l_need_row : K.lookup f_need_row = some ⟨oc12, od12, .func (PySem.W.fnOf "need_row" "need_row" (defArgs s_need_row) (defBody s_need_row) (defScope s_need_row) .none kV12 dc12 pm12 an12 cd12 ct12), sl12⟩)
    (co_need_row : PySem.W.codeIn K cd12 "need_row" = true)
    (k_need_row : PySem.W.keepIn K (.ref f_need_row) = true)
    (a_is_good_row : PySem.W.nsIn K mainGlobals "is_good_row" = some (some (.ref f_is_good_row)))
    (l_is_good_row : K.lookup f_is_good_row = some ⟨oc13, od13, .func (PySem.W.fnOf "is_good_row" "is_good_row" (defArgs s_is_good_row) (defBody s_is_good_row) (defScope s_is_good_row) .none kV13 dc13 pm13 an13 cd13 ct13), sl13⟩)
    (co_is_good_row : PySem.W.codeIn K cd13 "is_good_row" = true)
    (k_is_good_row : PySem.W.keepIn K (.ref f_is_good_row) = true)
    (z_all : PySem.W.nsIn K mainGlobals "all" = some none)
    (a_is_time : PySem.W.nsIn K mainGlobals "is_time" = some (some (.ref f_is_time)))
    (l_is_time : K.lookup f_is_time = some ⟨oc14, od14, .func (PySem.W.fnOf "is_time" "is_time" (defArgs s_is_time) (defBody s_is_time) (defScope s_is_time) .none kV14 dc14 pm14 an14 cd14 ct14), sl14⟩)
    (co_is_time : PySem.W.codeIn K cd14 "is_time" = true)
    (k_is_time : PySem.W.keepIn K (.ref f_is_time) = true)
    (a_is_number : PySem.W.nsIn K mainGlobals "is_number" = some (some (.ref f_is_number)))
    (l_is_number : K.lookup f_is_number = some ⟨oc15, od15, .func (PySem.W.fnOf "is_number" "is_number" (defArgs s_is_number) (defBody s_is_number) (defScope s_is_number) .none kV15 dc15 pm15 an15 cd15 ct15), sl15⟩)
    (co_is_number : PySem.W.codeIn K cd15 "is_number" = true)
    (k_is_number : PySem.W.keepIn K (.ref f_is_number) = true)
    (z_isinstance : PySem.W.nsIn K mainGlobals "isinstance" = some none)
    (z_bool : PySem.W.nsIn K mainGlobals "bool" = some none)
    (z_int : PySem.W.nsIn K mainGlobals "int" = some none)
    (z_tuple : PySem.W.nsIn K mainGlobals "tuple" = some none)
    (aE_InvalidRow : PySem.W.nsIn K mainGlobals "InvalidRow" = some (some (.ref C_InvalidRow)))
    (xE_InvalidRow : PySem.W.excIn K C_InvalidRow [.type "ValueError", .type "Exception", .type "BaseException", .type "object"] "ValueError.__new__" = true)
    (kE_InvalidRow : PySem.W.keepIn K (.ref C_InvalidRow) = true)
    (bE_InvalidRow : PySem.W.subIn K (.ref C_InvalidRow) (.type "BaseException") = some true)
    (tE_InvalidRow : PySem.W.typeIn K (.ref C_InvalidRow) = some (.type "type"))
    (a_need_loop : PySem.W.nsIn K mainGlobals "need_loop" = some (some (.ref f_need_loop)))
    (l_need_loop : K.lookup f_need_loop = some ⟨oc16, od16, .func (PySem.W.fnOf "need_loop" "need_loop" (defArgs s_need_loop) (defBody s_need_loop) (defScope s_need_loop) .none kV16 dc16 pm16 an16 cd16 ct16), sl16⟩)
    (co_need_loop : PySem.W.codeIn K cd16 "need_loop" = true)
    (k_need_loop : PySem.W.keepIn K (.ref f_need_loop) = true)
    (a_is_loop : PySem.W.nsIn K mainGlobals "is_loop" = some (some (.ref f_is_loop)))
    (l_is_loop : K.lookup f_is_loop = some ⟨oc17, od17, .func (PySem.W.fnOf "is_loop" "is_loop" (defArgs s_is_loop) (defBody s_is_loop) (defScope s_is_loop) .none kV17 dc17 pm17 an17 cd17 ct17), sl17⟩)
    (co_is_loop : PySem.W.codeIn K cd17 "is_loop" = true)
    (k_is_loop : PySem.W.keepIn K (.ref f_is_loop) = true)
    (v_MOST_STATEMENTS : PySem.W.nsIn K mainGlobals "MOST_STATEMENTS" = some (some (.int (12) t_MOST_STATEMENTS)))
    (a_is_body : PySem.W.nsIn K mainGlobals "is_body" = some (some (.ref f_is_body)))
    (l_is_body : K.lookup f_is_body = some ⟨oc18, od18, .func (PySem.W.fnOf "is_body" "is_body" (defArgs s_is_body) (defBody s_is_body) (defScope s_is_body) .none kV18 dc18 pm18 an18 cd18 ct18), sl18⟩)
    (co_is_body : PySem.W.codeIn K cd18 "is_body" = true)
    (k_is_body : PySem.W.keepIn K (.ref f_is_body) = true)
    (a_is_statement : PySem.W.nsIn K mainGlobals "is_statement" = some (some (.ref f_is_statement)))
    (l_is_statement : K.lookup f_is_statement = some ⟨oc19, od19, .func (PySem.W.fnOf "is_statement" "is_statement" (defArgs s_is_statement) (defBody s_is_statement) (defScope s_is_statement) .none kV19 dc19 pm19 an19 cd19 ct19), sl19⟩)
    (co_is_statement : PySem.W.codeIn K cd19 "is_statement" = true)
    (k_is_statement : PySem.W.keepIn K (.ref f_is_statement) = true)
    (a_is_counted : PySem.W.nsIn K mainGlobals "is_counted" = some (some (.ref f_is_counted)))
    (l_is_counted : K.lookup f_is_counted = some ⟨oc20, od20, .func (PySem.W.fnOf "is_counted" "is_counted" (defArgs s_is_counted) (defBody s_is_counted) (defScope s_is_counted) .none kV20 dc20 pm20 an20 cd20 ct20), sl20⟩)
    (co_is_counted : PySem.W.codeIn K cd20 "is_counted" = true)
    (k_is_counted : PySem.W.keepIn K (.ref f_is_counted) = true)
    (v_MOST_TIME : PySem.W.nsIn K mainGlobals "MOST_TIME" = some (some (.int (8) t_MOST_TIME)))
    (v_LEAST_NUMBERS : PySem.W.nsIn K mainGlobals "LEAST_NUMBERS" = some (some (.ref p_LEAST_NUMBERS)))
    (lk_LEAST_NUMBERS : K.lookup p_LEAST_NUMBERS = some ⟨.type "dict", none, .dict es_LEAST_NUMBERS n_LEAST_NUMBERS, #[]⟩)
    (kk_LEAST_NUMBERS : PySem.W.KeysLit w.params es_LEAST_NUMBERS.toList)
    (e0_LEAST_NUMBERS : PySem.W.nsIn K p_LEAST_NUMBERS "wait" = some (some (.int 1 te0_LEAST_NUMBERS)))
    (e1_LEAST_NUMBERS : PySem.W.nsIn K p_LEAST_NUMBERS "rest" = some (some (.int 1 te1_LEAST_NUMBERS)))
    (e2_LEAST_NUMBERS : PySem.W.nsIn K p_LEAST_NUMBERS "move" = some (some (.int 1 te2_LEAST_NUMBERS)))
    (e3_LEAST_NUMBERS : PySem.W.nsIn K p_LEAST_NUMBERS "ahead" = some (some (.int 1 te3_LEAST_NUMBERS)))
    (e4_LEAST_NUMBERS : PySem.W.nsIn K p_LEAST_NUMBERS "set" = some (some (.int 0 te4_LEAST_NUMBERS)))
    (e5_LEAST_NUMBERS : PySem.W.nsIn K p_LEAST_NUMBERS "late" = some (some (.int 0 te5_LEAST_NUMBERS)))
    (a_is_test : PySem.W.nsIn K mainGlobals "is_test" = some (some (.ref f_is_test)))
    (l_is_test : K.lookup f_is_test = some ⟨oc21, od21, .func (PySem.W.fnOf "is_test" "is_test" (defArgs s_is_test) (defBody s_is_test) (defScope s_is_test) .none kV21 dc21 pm21 an21 cd21 ct21), sl21⟩)
    (co_is_test : PySem.W.codeIn K cd21 "is_test" = true)
    (k_is_test : PySem.W.keepIn K (.ref f_is_test) = true)
    (a_is_worded : PySem.W.nsIn K mainGlobals "is_worded" = some (some (.ref f_is_worded)))
    (l_is_worded : K.lookup f_is_worded = some ⟨oc22, od22, .func (PySem.W.fnOf "is_worded" "is_worded" (defArgs s_is_worded) (defBody s_is_worded) (defScope s_is_worded) .none kV22 dc22 pm22 an22 cd22 ct22), sl22⟩)
    (co_is_worded : PySem.W.codeIn K cd22 "is_worded" = true)
    (k_is_worded : PySem.W.keepIn K (.ref f_is_worded) = true)
    (z_str : PySem.W.nsIn K mainGlobals "str" = some none)
    (v_MOST_DEEP : PySem.W.nsIn K mainGlobals "MOST_DEEP" = some (some (.int (3) t_MOST_DEEP)))
    (aE_InvalidLoop : PySem.W.nsIn K mainGlobals "InvalidLoop" = some (some (.ref C_InvalidLoop)))
    (xE_InvalidLoop : PySem.W.excIn K C_InvalidLoop [.type "ValueError", .type "Exception", .type "BaseException", .type "object"] "ValueError.__new__" = true)
    (kE_InvalidLoop : PySem.W.keepIn K (.ref C_InvalidLoop) = true)
    (bE_InvalidLoop : PySem.W.subIn K (.ref C_InvalidLoop) (.type "BaseException") = some true)
    (tE_InvalidLoop : PySem.W.typeIn K (.ref C_InvalidLoop) = some (.type "type"))
    (a_done : PySem.W.nsIn K mainGlobals "done" = some (some (.ref f_done)))
    (l_done : K.lookup f_done = some ⟨oc23, od23, .func (PySem.W.fnOf "done" "done" (defArgs s_done) (defBody s_done) (defScope s_done) .none kV23 dc23 pm23 an23 cd23 ct23), sl23⟩)
    (co_done : PySem.W.codeIn K cd23 "done" = true)
    (k_done : PySem.W.keepIn K (.ref f_done) = true)
    (z_sorted : PySem.W.nsIn K mainGlobals "sorted" = some none)
    (a_latenesses : PySem.W.nsIn K mainGlobals "latenesses" = some (some (.ref f_latenesses)))
    (l_latenesses : K.lookup f_latenesses = some ⟨oc24, od24, .func (PySem.W.fnOf "latenesses" "latenesses" (defArgs s_latenesses) (defBody s_latenesses) (defScope s_latenesses) .none kV24 dc24 pm24 an24 cd24 ct24), sl24⟩)
    (co_latenesses : PySem.W.codeIn K cd24 "latenesses" = true)
    (k_latenesses : PySem.W.keepIn K (.ref f_latenesses) = true)
    (z_range : PySem.W.nsIn K mainGlobals "range" = some none)
    (z_min : PySem.W.nsIn K mainGlobals "min" = some none)
    (a__law_moments : PySem.W.nsIn K mainGlobals "_law_moments" = some (some (.ref f__law_moments)))
    (l__law_moments : K.lookup f__law_moments = some ⟨oc25, od25, .func (PySem.W.fnOf "_law_moments" "_law_moments" (defArgs s__law_moments) (defBody s__law_moments) (defScope s__law_moments) .none kV25 dc25 pm25 an25 cd25 ct25), sl25⟩)
    (co__law_moments : PySem.W.codeIn K cd25 "_law_moments" = true)
    (k__law_moments : PySem.W.keepIn K (.ref f__law_moments) = true)
    (a__law_round : PySem.W.nsIn K mainGlobals "_law_round" = some (some (.ref f__law_round)))
    (l__law_round : K.lookup f__law_round = some ⟨oc26, od26, .func (PySem.W.fnOf "_law_round" "_law_round" (defArgs s__law_round) (defBody s__law_round) (defScope s__law_round) .none kV26 dc26 pm26 an26 cd26 ct26), sl26⟩)
    (co__law_round : PySem.W.codeIn K cd26 "_law_round" = true)
    (k__law_round : PySem.W.keepIn K (.ref f__law_round) = true)
    (a__law_do : PySem.W.nsIn K mainGlobals "_law_do" = some (some (.ref f__law_do)))
    (l__law_do : K.lookup f__law_do = some ⟨oc27, od27, .func (PySem.W.fnOf "_law_do" "_law_do" (defArgs s__law_do) (defBody s__law_do) (defScope s__law_do) .none kV27 dc27 pm27 an27 cd27 ct27), sl27⟩)
    (co__law_do : PySem.W.codeIn K cd27 "_law_do" = true)
    (k__law_do : PySem.W.keepIn K (.ref f__law_do) = true)
    (a__law_size : PySem.W.nsIn K mainGlobals "_law_size" = some (some (.ref f__law_size)))
    (l__law_size : K.lookup f__law_size = some ⟨oc28, od28, .func (PySem.W.fnOf "_law_size" "_law_size" (defArgs s__law_size) (defBody s__law_size) (defScope s__law_size) .none kV28 dc28 pm28 an28 cd28 ct28), sl28⟩)
    (co__law_size : PySem.W.codeIn K cd28 "_law_size" = true)
    (k__law_size : PySem.W.keepIn K (.ref f__law_size) = true)
    (a__law_row : PySem.W.nsIn K mainGlobals "_law_row" = some (some (.ref f__law_row)))
    (l__law_row : K.lookup f__law_row = some ⟨oc29, od29, .func (PySem.W.fnOf "_law_row" "_law_row" (defArgs s__law_row) (defBody s__law_row) (defScope s__law_row) .none kV29 dc29 pm29 an29 cd29 ct29), sl29⟩)
    (co__law_row : PySem.W.codeIn K cd29 "_law_row" = true)
    (k__law_row : PySem.W.keepIn K (.ref f__law_row) = true)
    (a__law_draw : PySem.W.nsIn K mainGlobals "_law_draw" = some (some (.ref f__law_draw)))
    (l__law_draw : K.lookup f__law_draw = some ⟨oc30, od30, .func (PySem.W.fnOf "_law_draw" "_law_draw" (defArgs s__law_draw) (defBody s__law_draw) (defScope s__law_draw) .none kV30 dc30 pm30 an30 cd30 ct30), sl30⟩)
    (co__law_draw : PySem.W.codeIn K cd30 "_law_draw" = true)
    (k__law_draw : PySem.W.keepIn K (.ref f__law_draw) = true)
    (a__law_of : PySem.W.nsIn K mainGlobals "_law_of" = some (some (.ref f__law_of)))
    (l__law_of : K.lookup f__law_of = some ⟨oc31, od31, .func (PySem.W.fnOf "_law_of" "_law_of" (defArgs s__law_of) (defBody s__law_of) (defScope s__law_of) .none kV31 dc31 pm31 an31 cd31 ct31), sl31⟩)
    (co__law_of : PySem.W.codeIn K cd31 "_law_of" = true)
    (k__law_of : PySem.W.keepIn K (.ref f__law_of) = true)
    (a__law_loop : PySem.W.nsIn K mainGlobals "_law_loop" = some (some (.ref f__law_loop)))
    (l__law_loop : K.lookup f__law_loop = some ⟨oc32, od32, .func (PySem.W.fnOf "_law_loop" "_law_loop" (defArgs s__law_loop) (defBody s__law_loop) (defScope s__law_loop) .none kV32 dc32 pm32 an32 cd32 ct32), sl32⟩)
    (co__law_loop : PySem.W.codeIn K cd32 "_law_loop" = true)
    (k__law_loop : PySem.W.keepIn K (.ref f__law_loop) = true)
    (a__law_bent : PySem.W.nsIn K mainGlobals "_law_bent" = some (some (.ref f__law_bent)))
    (l__law_bent : K.lookup f__law_bent = some ⟨oc33, od33, .func (PySem.W.fnOf "_law_bent" "_law_bent" (defArgs s__law_bent) (defBody s__law_bent) (defScope s__law_bent) .none kV33 dc33 pm33 an33 cd33 ct33), sl33⟩)
    (co__law_bent : PySem.W.codeIn K cd33 "_law_bent" = true)
    (k__law_bent : PySem.W.keepIn K (.ref f__law_bent) = true)
    (a__law_simple : PySem.W.nsIn K mainGlobals "_law_simple" = some (some (.ref f__law_simple)))
    (l__law_simple : K.lookup f__law_simple = some ⟨oc34, od34, .func (PySem.W.fnOf "_law_simple" "_law_simple" (defArgs s__law_simple) (defBody s__law_simple) (defScope s__law_simple) .none kV34 dc34 pm34 an34 cd34 ct34), sl34⟩)
    (co__law_simple : PySem.W.codeIn K cd34 "_law_simple" = true)
    (k__law_simple : PySem.W.keepIn K (.ref f__law_simple) = true)
    (a__law_known : PySem.W.nsIn K mainGlobals "_law_known" = some (some (.ref f__law_known)))
    (l__law_known : K.lookup f__law_known = some ⟨oc35, od35, .func (PySem.W.fnOf "_law_known" "_law_known" (defArgs s__law_known) (defBody s__law_known) (defScope s__law_known) .none kV35 dc35 pm35 an35 cd35 ct35), sl35⟩)
    (co__law_known : PySem.W.codeIn K cd35 "_law_known" = true)
    (k__law_known : PySem.W.keepIn K (.ref f__law_known) = true)
    (a__law_body : PySem.W.nsIn K mainGlobals "_law_body" = some (some (.ref f__law_body)))
    (l__law_body : K.lookup f__law_body = some ⟨oc36, od36, .func (PySem.W.fnOf "_law_body" "_law_body" (defArgs s__law_body) (defBody s__law_body) (defScope s__law_body) .none kV36 dc36 pm36 an36 cd36 ct36), sl36⟩)
    (co__law_body : PySem.W.codeIn K cd36 "_law_body" = true)
    (k__law_body : PySem.W.keepIn K (.ref f__law_body) = true)
    (a__law_source : PySem.W.nsIn K mainGlobals "_law_source" = some (some (.ref f__law_source)))
    (l__law_source : K.lookup f__law_source = some ⟨oc37, od37, .func (PySem.W.fnOf "_law_source" "_law_source" (defArgs s__law_source) (defBody s__law_source) (defScope s__law_source) .none kV37 dc37 pm37 an37 cd37 ct37), sl37⟩)
    (co__law_source : PySem.W.codeIn K cd37 "_law_source" = true)
    (k__law_source : PySem.W.keepIn K (.ref f__law_source) = true)
    (z_abs : PySem.W.nsIn K mainGlobals "abs" = some none)
    : ∃ fd : FuncData, (∀ (s : Shared) (v : Value), BindsTo s fd ⟨[v], []⟩ [("script", v)]) ∧ ∀ base : Heap, K.In base → base.Ns mainGlobals mg → FnOk P w K mg base (L2.CX P w) 24 fa fd ["script"] (spP K 1 φ_law) := by
  have e := hfa.symm.trans (PySem.W.mg_of X G a_law)
  cases e
  refine ⟨PySem.W.fnOf "law" "law" (defArgs s_law) (defBody s_law) (defScope s_law) .none kV0 dc0 pm0 an0 cd0 ct0, fun s v => .of_eq rfl, fun base _ _ => ?_⟩
  have Fu_law := fun_mk (st := s_law) l_law co_law k_law
  have Fu_starts := fun_mk (st := s_starts) l_starts co_starts k_starts
  have T_starts : TopD K mg "starts" ["loop", "row"] s_starts := ⟨f_starts, _, Fu_starts, PySem.W.mg_of X G a_starts, Fu_starts.binds (ps := ["loop", "row"]) fun _ _ _ _ _ _ us hl => match us, hl with | [_, _], _ => rfl⟩
  have Fu_moments := fun_mk (st := s_moments) l_moments co_moments k_moments
  have T_moments : TopD K mg "moments" ["loop", "row"] s_moments := ⟨f_moments, _, Fu_moments, PySem.W.mg_of X G a_moments, Fu_moments.binds (ps := ["loop", "row"]) fun _ _ _ _ _ _ us hl => match us, hl with | [_, _], _ => rfl⟩
  have Fu_states_of := fun_mk (st := s_states_of) l_states_of co_states_of k_states_of
  have T_states_of : TopD K mg "states_of" ["loop", "row"] s_states_of := ⟨f_states_of, _, Fu_states_of, PySem.W.mg_of X G a_states_of, Fu_states_of.binds (ps := ["loop", "row"]) fun _ _ _ _ _ _ us hl => match us, hl with | [_, _], _ => rfl⟩
  have Fu_round_done := fun_mk (st := s_round_done) l_round_done co_round_done k_round_done
  have T_round_done : TopD K mg "round_done" ["loop", "state", "time", "grid"] s_round_done := ⟨f_round_done, _, Fu_round_done, PySem.W.mg_of X G a_round_done, Fu_round_done.binds (ps := ["loop", "state", "time", "grid"]) fun _ _ _ _ _ _ us hl => match us, hl with | [_, _, _, _], _ => rfl⟩
  have Fu_body_done := fun_mk (st := s_body_done) l_body_done co_body_done k_body_done
  have T_body_done : TopD K mg "body_done" ["body", "first", "now", "grid"] s_body_done := ⟨f_body_done, _, Fu_body_done, PySem.W.mg_of X G a_body_done, Fu_body_done.binds (ps := ["body", "first", "now", "grid"]) fun _ _ _ _ _ _ us hl => match us, hl with | [_, _, _, _], _ => rfl⟩
  have Fu_bodies_of := fun_mk (st := s_bodies_of) l_bodies_of co_bodies_of k_bodies_of
  have T_bodies_of : TopD K mg "bodies_of" ["statement"] s_bodies_of := ⟨f_bodies_of, _, Fu_bodies_of, PySem.W.mg_of X G a_bodies_of, Fu_bodies_of.binds (ps := ["statement"]) fun _ _ _ _ _ _ us hl => match us, hl with | [_], _ => rfl⟩
  have m_list : mg "list" = none := PySem.W.mg_none_of X G z_list
  have cr_bodies_of : CallF P w K mg base "bodies_of" 1 1 (φR (F_bodies_of)) := okr_bodies_of (k := 0) T_bodies_of (m_list := m_list)
  have Fu_listed := fun_mk (st := s_listed) l_listed co_listed k_listed
  have T_listed : TopD K mg "listed" ["body"] s_listed := ⟨f_listed, _, Fu_listed, PySem.W.mg_of X G a_listed, Fu_listed.binds (ps := ["body"]) fun _ _ _ _ _ _ us hl => match us, hl with | [_], _ => rfl⟩
  have cr_listed : ∀ m, CallF P w K mg base "listed" 1 (1 + m) (φR (F_listed m)) := rec_of T_listed rfl (fun _ _ => rfl) fun m k hk ih => okr_listed (k := k) T_listed (c_bodies_of := (cr_bodies_of.up (by omega))) (c_listed := ih)
  have m_len : mg "len" = none := PySem.W.mg_none_of X G z_len
  have m_sum : mg "sum" = none := PySem.W.mg_none_of X G z_sum
  have Fu_holds := fun_mk (st := s_holds) l_holds co_holds k_holds
  have T_holds : TopD K mg "holds" ["test", "late", "flag", "grid"] s_holds := ⟨f_holds, _, Fu_holds, PySem.W.mg_of X G a_holds, Fu_holds.binds (ps := ["test", "late", "flag", "grid"]) fun _ _ _ _ _ _ us hl => match us, hl with | [_, _, _, _], _ => rfl⟩
  have cr_holds : CallF P w K mg base "holds" 4 1 (φR (F_holds)) := okr_holds (k := 0) T_holds
  have Fu_marked := fun_mk (st := s_marked) l_marked co_marked k_marked
  have T_marked : TopD K mg "marked" ["statement", "late", "grid"] s_marked := ⟨f_marked, _, Fu_marked, PySem.W.mg_of X G a_marked, Fu_marked.binds (ps := ["statement", "late", "grid"]) fun _ _ _ _ _ _ us hl => match us, hl with | [_, _, _], _ => rfl⟩
  have cr_marked : CallF P w K mg base "marked" 3 1 (φR (F_marked)) := okr_marked (k := 0) T_marked
  have Fu_waited := fun_mk (st := s_waited) l_waited co_waited k_waited
  have T_waited : TopD K mg "waited" ["statement", "gone", "late", "grid"] s_waited := ⟨f_waited, _, Fu_waited, PySem.W.mg_of X G a_waited, Fu_waited.binds (ps := ["statement", "gone", "late", "grid"]) fun _ _ _ _ _ _ us hl => match us, hl with | [_, _, _, _], _ => rfl⟩
  have m_max : mg "max" = none := PySem.W.mg_none_of X G z_max
  have cr_waited : CallF P w K mg base "waited" 4 1 (φR (F_waited)) := okr_waited (k := 0) T_waited (m_max := m_max)
  have cr_body_done : ∀ m, CallF P w K mg base "body_done" 4 (10 + m) (φR (F_body_done m)) := rec_of T_body_done rfl (fun _ _ => rfl) fun m k hk ih => okr_body_done (k := k) T_body_done (c_bodies_of := (cr_bodies_of.up (by omega))) (c_listed := ((cr_listed 9).up (by omega))) (m_len := m_len) (m_sum := m_sum) (c_body_done := ih) (c_holds := (cr_holds.up (by omega))) (c_marked := (cr_marked.up (by omega))) (c_waited := (cr_waited.up (by omega)))
  have cr_round_done : CallF P w K mg base "round_done" 4 20 (φR (F_round_done)) := okr_round_done (k := 19) T_round_done (c_body_done := ((cr_body_done 9).up (by decide)))
  have Fu_begun := fun_mk (st := s_begun) l_begun co_begun k_begun
  have T_begun : TopD K mg "begun" ["loop", "grid"] s_begun := ⟨f_begun, _, Fu_begun, PySem.W.mg_of X G a_begun, Fu_begun.binds (ps := ["loop", "grid"]) fun _ _ _ _ _ _ us hl => match us, hl with | [_, _], _ => rfl⟩
  have cr_begun : CallF P w K mg base "begun" 2 1 (φR (F_begun)) := okr_begun (k := 0) T_begun
  have cr_states_of : CallF P w K mg base "states_of" 2 21 (φR (F_states_of)) := okr_states_of (k := 20) T_states_of (c_round_done := (cr_round_done.up (by decide))) (c_begun := (cr_begun.up (by decide)))
  have cr_moments : CallF P w K mg base "moments" 2 22 (φR (F_moments)) := okr_moments (k := 21) T_moments (c_states_of := (cr_states_of.up (by decide)))
  have Fu_need_row := fun_mk (st := s_need_row) l_need_row co_need_row k_need_row
  have T_need_row : TopD K mg "need_row" ["loop", "value"] s_need_row := ⟨f_need_row, _, Fu_need_row, PySem.W.mg_of X G a_need_row, Fu_need_row.binds (ps := ["loop", "value"]) fun _ _ _ _ _ _ us hl => match us, hl with | [_, _], _ => rfl⟩
  have Fu_is_good_row := fun_mk (st := s_is_good_row) l_is_good_row co_is_good_row k_is_good_row
  have T_is_good_row : TopD K mg "is_good_row" ["loop", "value"] s_is_good_row := ⟨f_is_good_row, _, Fu_is_good_row, PySem.W.mg_of X G a_is_good_row, Fu_is_good_row.binds (ps := ["loop", "value"]) fun _ _ _ _ _ _ us hl => match us, hl with | [_, _], _ => rfl⟩
  have m_all : mg "all" = none := PySem.W.mg_none_of X G z_all
  have Fu_is_time := fun_mk (st := s_is_time) l_is_time co_is_time k_is_time
  have T_is_time : TopD K mg "is_time" ["loop", "grid", "value"] s_is_time := ⟨f_is_time, _, Fu_is_time, PySem.W.mg_of X G a_is_time, Fu_is_time.binds (ps := ["loop", "grid", "value"]) fun _ _ _ _ _ _ us hl => match us, hl with | [_, _, _], _ => rfl⟩
  have Fu_is_number := fun_mk (st := s_is_number) l_is_number co_is_number k_is_number
  have T_is_number : TopD K mg "is_number" ["value", "least", "most"] s_is_number := ⟨f_is_number, _, Fu_is_number, PySem.W.mg_of X G a_is_number, Fu_is_number.binds (ps := ["value", "least", "most"]) fun _ _ _ _ _ _ us hl => match us, hl with | [_, _, _], _ => rfl⟩
  have m_isinstance : mg "isinstance" = none := PySem.W.mg_none_of X G z_isinstance
  have m_bool : mg "bool" = none := PySem.W.mg_none_of X G z_bool
  have m_int : mg "int" = none := PySem.W.mg_none_of X G z_int
  have c_is_number := ok_is_number (P := P) (w := w) (base := base) (k := 0) T_is_number (m_isinstance := m_isinstance) (m_bool := m_bool) (m_int := m_int)
  have c_is_time := ok_is_time (P := P) (w := w) (base := base) (k := 1) T_is_time (c_is_number := (c_is_number.up (by decide)))
  have m_tuple : mg "tuple" = none := PySem.W.mg_none_of X G z_tuple
  have c_is_good_row := ok_is_good_row (P := P) (w := w) (base := base) (k := 2) T_is_good_row (m_all := m_all) (c_is_time := (c_is_time.up (by decide))) (m_isinstance := m_isinstance) (m_tuple := m_tuple) (m_bool := m_bool) (m_int := m_int) (m_len := m_len)
  have x_InvalidRow : ExC K mg "InvalidRow" C_InvalidRow := ⟨PySem.W.mg_of X G aE_InvalidRow, xE_InvalidRow, kE_InvalidRow, bE_InvalidRow, tE_InvalidRow⟩
  have Fu_need_loop := fun_mk (st := s_need_loop) l_need_loop co_need_loop k_need_loop
  have T_need_loop : TopD K mg "need_loop" ["value"] s_need_loop := ⟨f_need_loop, _, Fu_need_loop, PySem.W.mg_of X G a_need_loop, Fu_need_loop.binds (ps := ["value"]) fun _ _ _ _ _ _ us hl => match us, hl with | [_], _ => rfl⟩
  have Fu_is_loop := fun_mk (st := s_is_loop) l_is_loop co_is_loop k_is_loop
  have T_is_loop : TopD K mg "is_loop" ["value"] s_is_loop := ⟨f_is_loop, _, Fu_is_loop, PySem.W.mg_of X G a_is_loop, Fu_is_loop.binds (ps := ["value"]) fun _ _ _ _ _ _ us hl => match us, hl with | [_], _ => rfl⟩
  have c_bodies_of := ok_bodies_of (P := P) (w := w) (base := base) (k := 0) T_bodies_of (m_list := m_list)
  have c_listed_0 := ok_listed (P := P) (w := w) (base := base) (k := 1) (d := 0) T_listed (c_bodies_of := (c_bodies_of.up (by decide))) (c_listed := (low_none T_listed rfl fun _ _ _ _ h => absurd h.1 (by decide))) (hd := (by decide))
  have c_listed_1 := ok_listed (P := P) (w := w) (base := base) (k := 2) (d := 1) T_listed (c_bodies_of := (c_bodies_of.up (by decide))) (c_listed := (c_listed_0.up (by decide) |>.wk fun _ _ _ _ h => h.2)) (hd := (by decide))
  have c_listed_2 := ok_listed (P := P) (w := w) (base := base) (k := 3) (d := 2) T_listed (c_bodies_of := (c_bodies_of.up (by decide))) (c_listed := (c_listed_1.up (by decide) |>.wk fun _ _ _ _ h => h.2)) (hd := (by decide))
  have c_listed_3 := ok_listed (P := P) (w := w) (base := base) (k := 4) (d := 3) T_listed (c_bodies_of := (c_bodies_of.up (by decide))) (c_listed := (c_listed_2.up (by decide) |>.wk fun _ _ _ _ h => h.2)) (hd := (by decide))
  have g_MOST_STATEMENTS : GI mg "MOST_STATEMENTS" 12 := ⟨_, PySem.W.mg_of X G v_MOST_STATEMENTS⟩
  have Fu_is_body := fun_mk (st := s_is_body) l_is_body co_is_body k_is_body
  have T_is_body : TopD K mg "is_body" ["value", "deep"] s_is_body := ⟨f_is_body, _, Fu_is_body, PySem.W.mg_of X G a_is_body, Fu_is_body.binds (ps := ["value", "deep"]) fun _ _ _ _ _ _ us hl => match us, hl with | [_, _], _ => rfl⟩
  have Fu_is_statement := fun_mk (st := s_is_statement) l_is_statement co_is_statement k_is_statement
  have T_is_statement : TopD K mg "is_statement" ["value", "deep"] s_is_statement := ⟨f_is_statement, _, Fu_is_statement, PySem.W.mg_of X G a_is_statement, Fu_is_statement.binds (ps := ["value", "deep"]) fun _ _ _ _ _ _ us hl => match us, hl with | [_, _], _ => rfl⟩
  have Fu_is_counted := fun_mk (st := s_is_counted) l_is_counted co_is_counted k_is_counted
  have T_is_counted : TopD K mg "is_counted" ["value", "words"] s_is_counted := ⟨f_is_counted, _, Fu_is_counted, PySem.W.mg_of X G a_is_counted, Fu_is_counted.binds (ps := ["value", "words"]) fun _ _ _ _ _ _ us hl => match us, hl with | [_, _], _ => rfl⟩
  have g_MOST_TIME : GI mg "MOST_TIME" 8 := ⟨_, PySem.W.mg_of X G v_MOST_TIME⟩
  have g_LEAST_NUMBERS : GT K w mg "LEAST_NUMBERS" tab_LEAST_NUMBERS := gt_of (PySem.W.mg_of X G v_LEAST_NUMBERS) fun zd hz => by
    simp only [tab_LEAST_NUMBERS, List.mem_cons, List.not_mem_nil, or_false] at hz
    rcases hz with rfl | rfl | rfl | rfl | rfl | rfl
    · exact ⟨.int 1, ⟨es_LEAST_NUMBERS, n_LEAST_NUMBERS, _, lk_LEAST_NUMBERS, kk_LEAST_NUMBERS, e0_LEAST_NUMBERS, ⟨_, rfl⟩⟩, fun _ => .int _⟩
    · exact ⟨.int 1, ⟨es_LEAST_NUMBERS, n_LEAST_NUMBERS, _, lk_LEAST_NUMBERS, kk_LEAST_NUMBERS, e1_LEAST_NUMBERS, ⟨_, rfl⟩⟩, fun _ => .int _⟩
    · exact ⟨.int 1, ⟨es_LEAST_NUMBERS, n_LEAST_NUMBERS, _, lk_LEAST_NUMBERS, kk_LEAST_NUMBERS, e2_LEAST_NUMBERS, ⟨_, rfl⟩⟩, fun _ => .int _⟩
    · exact ⟨.int 1, ⟨es_LEAST_NUMBERS, n_LEAST_NUMBERS, _, lk_LEAST_NUMBERS, kk_LEAST_NUMBERS, e3_LEAST_NUMBERS, ⟨_, rfl⟩⟩, fun _ => .int _⟩
    · exact ⟨.int 0, ⟨es_LEAST_NUMBERS, n_LEAST_NUMBERS, _, lk_LEAST_NUMBERS, kk_LEAST_NUMBERS, e4_LEAST_NUMBERS, ⟨_, rfl⟩⟩, fun _ => .int _⟩
    · exact ⟨.int 0, ⟨es_LEAST_NUMBERS, n_LEAST_NUMBERS, _, lk_LEAST_NUMBERS, kk_LEAST_NUMBERS, e5_LEAST_NUMBERS, ⟨_, rfl⟩⟩, fun _ => .int _⟩
  have c_is_counted := ok_is_counted (P := P) (w := w) (base := base) (k := 1) T_is_counted (c_is_number := (c_is_number.up (by decide))) (g_MOST_TIME := g_MOST_TIME) (g_LEAST_NUMBERS := g_LEAST_NUMBERS) (m_len := m_len)
  have Fu_is_test := fun_mk (st := s_is_test) l_is_test co_is_test k_is_test
  have T_is_test : TopD K mg "is_test" ["value"] s_is_test := ⟨f_is_test, _, Fu_is_test, PySem.W.mg_of X G a_is_test, Fu_is_test.binds (ps := ["value"]) fun _ _ _ _ _ _ us hl => match us, hl with | [_], _ => rfl⟩
  have Fu_is_worded := fun_mk (st := s_is_worded) l_is_worded co_is_worded k_is_worded
  have T_is_worded : TopD K mg "is_worded" ["value"] s_is_worded := ⟨f_is_worded, _, Fu_is_worded, PySem.W.mg_of X G a_is_worded, Fu_is_worded.binds (ps := ["value"]) fun _ _ _ _ _ _ us hl => match us, hl with | [_], _ => rfl⟩
  have m_str : mg "str" = none := PySem.W.mg_none_of X G z_str
  have c_is_worded := ok_is_worded (P := P) (w := w) (base := base) (k := 0) T_is_worded (m_isinstance := m_isinstance) (m_str := m_str) (m_tuple := m_tuple)
  have c_is_test := ok_is_test (P := P) (w := w) (base := base) (k := 2) T_is_test (c_is_counted := (c_is_counted.up (by decide))) (c_is_worded := (c_is_worded.up (by decide)))
  have c_is_statement_0 := ok_is_statement (P := P) (w := w) (base := base) (k := 3) (d := 0) T_is_statement (c_is_counted := (c_is_counted.up (by decide))) (m_all := m_all) (c_is_body := (low_none T_is_body rfl fun _ _ _ _ h => h)) (c_is_test := (c_is_test.up (by decide))) (m_len := m_len) (c_is_worded := (c_is_worded.up (by decide)))
  have c_is_body_0 := ok_is_body (P := P) (w := w) (base := base) (k := 4) (d := 0) T_is_body (m_all := m_all) (c_is_statement := (c_is_statement_0.up (by decide))) (m_len := m_len) (m_isinstance := m_isinstance) (m_tuple := m_tuple)
  have c_is_statement_1 := ok_is_statement (P := P) (w := w) (base := base) (k := 5) (d := 1) T_is_statement (c_is_counted := (c_is_counted.up (by decide))) (m_all := m_all) (c_is_body := (c_is_body_0.up (by decide))) (c_is_test := (c_is_test.up (by decide))) (m_len := m_len) (c_is_worded := (c_is_worded.up (by decide)))
  have c_is_body_1 := ok_is_body (P := P) (w := w) (base := base) (k := 6) (d := 1) T_is_body (m_all := m_all) (c_is_statement := (c_is_statement_1.up (by decide))) (m_len := m_len) (m_isinstance := m_isinstance) (m_tuple := m_tuple)
  have c_is_statement_2 := ok_is_statement (P := P) (w := w) (base := base) (k := 7) (d := 2) T_is_statement (c_is_counted := (c_is_counted.up (by decide))) (m_all := m_all) (c_is_body := (c_is_body_1.up (by decide))) (c_is_test := (c_is_test.up (by decide))) (m_len := m_len) (c_is_worded := (c_is_worded.up (by decide)))
  have c_is_body_2 := ok_is_body (P := P) (w := w) (base := base) (k := 8) (d := 2) T_is_body (m_all := m_all) (c_is_statement := (c_is_statement_2.up (by decide))) (m_len := m_len) (m_isinstance := m_isinstance) (m_tuple := m_tuple)
  have c_is_statement_3 := ok_is_statement (P := P) (w := w) (base := base) (k := 9) (d := 3) T_is_statement (c_is_counted := (c_is_counted.up (by decide))) (m_all := m_all) (c_is_body := (c_is_body_2.up (by decide))) (c_is_test := (c_is_test.up (by decide))) (m_len := m_len) (c_is_worded := (c_is_worded.up (by decide)))
  have c_is_body_3 := ok_is_body (P := P) (w := w) (base := base) (k := 10) (d := 3) T_is_body (m_all := m_all) (c_is_statement := (c_is_statement_3.up (by decide))) (m_len := m_len) (m_isinstance := m_isinstance) (m_tuple := m_tuple)
  have g_MOST_DEEP : GI mg "MOST_DEEP" 3 := ⟨_, PySem.W.mg_of X G v_MOST_DEEP⟩
  have c_is_loop := ok_is_loop (P := P) (w := w) (base := base) (k := 11) T_is_loop (m_len := m_len) (c_listed := (c_listed_3.up (by decide))) (g_MOST_STATEMENTS := g_MOST_STATEMENTS) (c_is_body := (c_is_body_3.up (by decide))) (g_MOST_DEEP := g_MOST_DEEP) (m_all := m_all) (c_is_number := (c_is_number.up (by decide))) (g_MOST_TIME := g_MOST_TIME) (m_isinstance := m_isinstance) (m_tuple := m_tuple)
  have x_InvalidLoop : ExC K mg "InvalidLoop" C_InvalidLoop := ⟨PySem.W.mg_of X G aE_InvalidLoop, xE_InvalidLoop, kE_InvalidLoop, bE_InvalidLoop, tE_InvalidLoop⟩
  have c_need_loop := ok_need_loop (P := P) (w := w) (base := base) (k := 12) T_need_loop (c_is_loop := (c_is_loop.up (by decide))) (x_InvalidLoop := x_InvalidLoop)
  have c_need_row := ok_need_row (P := P) (w := w) (base := base) (k := 13) T_need_row (c_is_good_row := (c_is_good_row.up (by decide))) (x_InvalidRow := x_InvalidRow) (c_need_loop := (c_need_loop.up (by decide)))
  have cr_need_row := c_need_row.wk (S_need_row_wk C_InvalidLoop C_InvalidRow)
  have cr_starts : CallF P w K mg base "starts" 2 23 (φR (F_starts C_InvalidLoop C_InvalidRow)) := okr_starts (k := 22) T_starts (c_moments := (cr_moments.up (by decide))) (c_need_row := (cr_need_row.up (by decide)))
  have Fu_done := fun_mk (st := s_done) l_done co_done k_done
  have T_done : TopD K mg "done" ["loop", "row"] s_done := ⟨f_done, _, Fu_done, PySem.W.mg_of X G a_done, Fu_done.binds (ps := ["loop", "row"]) fun _ _ _ _ _ _ us hl => match us, hl with | [_, _], _ => rfl⟩
  have m_sorted : mg "sorted" = none := PySem.W.mg_none_of X G z_sorted
  have cr_done : CallF P w K mg base "done" 2 22 (φR (F_done C_InvalidLoop C_InvalidRow)) := okr_done (k := 21) T_done (c_states_of := (cr_states_of.up (by decide))) (m_list := m_list) (m_sorted := m_sorted) (c_need_row := (cr_need_row.up (by decide)))
  have Fu_latenesses := fun_mk (st := s_latenesses) l_latenesses co_latenesses k_latenesses
  have T_latenesses : TopD K mg "latenesses" ["loop", "row"] s_latenesses := ⟨f_latenesses, _, Fu_latenesses, PySem.W.mg_of X G a_latenesses, Fu_latenesses.binds (ps := ["loop", "row"]) fun _ _ _ _ _ _ us hl => match us, hl with | [_, _], _ => rfl⟩
  have cr_latenesses : CallF P w K mg base "latenesses" 2 22 (φR (F_latenesses C_InvalidLoop C_InvalidRow)) := okr_latenesses (k := 21) T_latenesses (c_states_of := (cr_states_of.up (by decide))) (c_need_row := (cr_need_row.up (by decide)))
  have m_range : mg "range" = none := PySem.W.mg_none_of X G z_range
  have m_min : mg "min" = none := PySem.W.mg_none_of X G z_min
  have Fu__law_moments := fun_mk (st := s__law_moments) l__law_moments co__law_moments k__law_moments
  have T__law_moments : TopD K mg "_law_moments" ["loop", "row"] s__law_moments := ⟨f__law_moments, _, Fu__law_moments, PySem.W.mg_of X G a__law_moments, Fu__law_moments.binds (ps := ["loop", "row"]) fun _ _ _ _ _ _ us hl => match us, hl with | [_, _], _ => rfl⟩
  have Fu__law_round := fun_mk (st := s__law_round) l__law_round co__law_round k__law_round
  have T__law_round : TopD K mg "_law_round" ["loop", "late", "flag", "time", "grid"] s__law_round := ⟨f__law_round, _, Fu__law_round, PySem.W.mg_of X G a__law_round, Fu__law_round.binds (ps := ["loop", "late", "flag", "time", "grid"]) fun _ _ _ _ _ _ us hl => match us, hl with | [_, _, _, _, _], _ => rfl⟩
  have Fu__law_do := fun_mk (st := s__law_do) l__law_do co__law_do k__law_do
  have T__law_do : TopD K mg "_law_do" ["body", "first", "now", "grid"] s__law_do := ⟨f__law_do, _, Fu__law_do, PySem.W.mg_of X G a__law_do, Fu__law_do.binds (ps := ["body", "first", "now", "grid"]) fun _ _ _ _ _ _ us hl => match us, hl with | [_, _, _, _], _ => rfl⟩
  have Fu__law_size := fun_mk (st := s__law_size) l__law_size co__law_size k__law_size
  have T__law_size : TopD K mg "_law_size" ["body"] s__law_size := ⟨f__law_size, _, Fu__law_size, PySem.W.mg_of X G a__law_size, Fu__law_size.binds (ps := ["body"]) fun _ _ _ _ _ _ us hl => match us, hl with | [_], _ => rfl⟩
  have cr__law_size : ∀ m, CallF P w K mg base "_law_size" 1 (0 + m) (φR (F__law_size m)) := rec_of T__law_size rfl (fun _ _ => rfl) fun m k hk ih => okr__law_size (k := k) T__law_size (c__law_size := ih)
  have cr__law_do : ∀ m, CallF P w K mg base "_law_do" 4 (9 + m) (φR (F__law_do m)) := rec_of T__law_do rfl (fun _ _ => rfl) fun m k hk ih => okr__law_do (k := k) T__law_do (c__law_do := ih) (c__law_size := ((cr__law_size 9).up (by omega))) (m_max := m_max)
  have c__law_round := ok__law_round (P := P) (w := w) (base := base) (k := 18) T__law_round (c__law_do := ((cr__law_do 9).up (by decide)))
  have cr__law_round := c__law_round.wk (S__law_round_wk)
  have cr__law_moments : CallF P w K mg base "_law_moments" 2 20 (φR (F__law_moments)) := okr__law_moments (k := 19) T__law_moments (m_list := m_list) (m_sorted := m_sorted) (c__law_round := (cr__law_round.up (by decide)))
  have Fu__law_row := fun_mk (st := s__law_row) l__law_row co__law_row k__law_row
  have T__law_row : TopD K mg "_law_row" ["source", "loop", "most"] s__law_row := ⟨f__law_row, _, Fu__law_row, PySem.W.mg_of X G a__law_row, Fu__law_row.binds (ps := ["source", "loop", "most"]) fun _ _ _ _ _ _ us hl => match us, hl with | [_, _, _], _ => rfl⟩
  have Fu__law_draw := fun_mk (st := s__law_draw) l__law_draw co__law_draw k__law_draw
  have T__law_draw : TopD K mg "_law_draw" ["source", "many"] s__law_draw := ⟨f__law_draw, _, Fu__law_draw, PySem.W.mg_of X G a__law_draw, Fu__law_draw.binds (ps := ["source", "many"]) fun _ _ _ _ _ _ us hl => match us, hl with | [_, _], _ => rfl⟩
  have c__law_draw := ok__law_draw (P := P) (w := w) (base := base) (k := 0) T__law_draw (m_int := m_int)
  have Fu__law_of := fun_mk (st := s__law_of) l__law_of co__law_of k__law_of
  have T__law_of : TopD K mg "_law_of" ["source", "items"] s__law_of := ⟨f__law_of, _, Fu__law_of, PySem.W.mg_of X G a__law_of, Fu__law_of.binds (ps := ["source", "items"]) fun _ _ _ _ _ _ us hl => match us, hl with | [_, _], _ => rfl⟩
  have c__law_of := ok__law_of (P := P) (w := w) (base := base) (k := 1) T__law_of (c__law_draw := (c__law_draw.up (by decide))) (m_len := m_len)
  have c__law_row := ok__law_row (P := P) (w := w) (base := base) (k := 2) T__law_row (m_range := m_range) (c__law_draw := (c__law_draw.up (by decide))) (c__law_of := (c__law_of.up (by decide)))
  have Fu__law_loop := fun_mk (st := s__law_loop) l__law_loop co__law_loop k__law_loop
  have T__law_loop : TopD K mg "_law_loop" ["source"] s__law_loop := ⟨f__law_loop, _, Fu__law_loop, PySem.W.mg_of X G a__law_loop, Fu__law_loop.binds (ps := ["source"]) fun _ _ _ _ _ _ us hl => match us, hl with | [_], _ => rfl⟩
  have c__law_size_0 := ok__law_size (P := P) (w := w) (base := base) (k := 0) (d := 0) T__law_size (c__law_size := (low_none T__law_size rfl fun _ _ _ _ h => absurd h.1 (by decide)))
  have c__law_size_1 := ok__law_size (P := P) (w := w) (base := base) (k := 1) (d := 1) T__law_size (c__law_size := (c__law_size_0.up (by decide) |>.wk fun _ _ _ _ h => h.2))
  have c__law_size_2 := ok__law_size (P := P) (w := w) (base := base) (k := 2) (d := 2) T__law_size (c__law_size := (c__law_size_1.up (by decide) |>.wk fun _ _ _ _ h => h.2))
  have c__law_size_3 := ok__law_size (P := P) (w := w) (base := base) (k := 3) (d := 3) T__law_size (c__law_size := (c__law_size_2.up (by decide) |>.wk fun _ _ _ _ h => h.2))
  have Fu__law_bent := fun_mk (st := s__law_bent) l__law_bent co__law_bent k__law_bent
  have T__law_bent : TopD K mg "_law_bent" ["source", "body"] s__law_bent := ⟨f__law_bent, _, Fu__law_bent, PySem.W.mg_of X G a__law_bent, Fu__law_bent.binds (ps := ["source", "body"]) fun _ _ _ _ _ _ us hl => match us, hl with | [_, _], _ => rfl⟩
  have Fu__law_simple := fun_mk (st := s__law_simple) l__law_simple co__law_simple k__law_simple
  have T__law_simple : TopD K mg "_law_simple" ["source"] s__law_simple := ⟨f__law_simple, _, Fu__law_simple, PySem.W.mg_of X G a__law_simple, Fu__law_simple.binds (ps := ["source"]) fun _ _ _ _ _ _ us hl => match us, hl with | [_], _ => rfl⟩
  have c__law_simple := ok__law_simple (P := P) (w := w) (base := base) (k := 2) T__law_simple (c__law_of := (c__law_of.up (by decide))) (c__law_draw := (c__law_draw.up (by decide)))
  have c__law_bent := ok__law_bent (P := P) (w := w) (base := base) (k := 3) T__law_bent (c__law_simple := (c__law_simple.up (by decide))) (c__law_draw := (c__law_draw.up (by decide))) (m_len := m_len)
  have Fu__law_known := fun_mk (st := s__law_known) l__law_known co__law_known k__law_known
  have T__law_known : TopD K mg "_law_known" ["source"] s__law_known := ⟨f__law_known, _, Fu__law_known, PySem.W.mg_of X G a__law_known, Fu__law_known.binds (ps := ["source"]) fun _ _ _ _ _ _ us hl => match us, hl with | [_], _ => rfl⟩
  have c__law_known := ok__law_known (P := P) (w := w) (base := base) (k := 2) T__law_known (c__law_of := (c__law_of.up (by decide))) (c__law_draw := (c__law_draw.up (by decide)))
  have Fu__law_body := fun_mk (st := s__law_body) l__law_body co__law_body k__law_body
  have T__law_body : TopD K mg "_law_body" ["source", "deep", "most"] s__law_body := ⟨f__law_body, _, Fu__law_body, PySem.W.mg_of X G a__law_body, Fu__law_body.binds (ps := ["source", "deep", "most"]) fun _ _ _ _ _ _ us hl => match us, hl with | [_, _, _], _ => rfl⟩
  have c__law_body_1 := ok__law_body (P := P) (w := w) (base := base) (k := 3) (d := 1) T__law_body (m_range := m_range) (c__law_draw := (c__law_draw.up (by decide))) (c__law_body := (low_none T__law_body rfl fun _ _ _ _ h => absurd h.1 (by decide))) (c__law_of := (c__law_of.up (by decide))) (c__law_simple := (c__law_simple.up (by decide))) (hd := (by decide))
  have c__law_body_2 := ok__law_body (P := P) (w := w) (base := base) (k := 4) (d := 2) T__law_body (m_range := m_range) (c__law_draw := (c__law_draw.up (by decide))) (c__law_body := (c__law_body_1.up (by decide) |>.wk fun _ _ _ _ h => h.2)) (c__law_of := (c__law_of.up (by decide))) (c__law_simple := (c__law_simple.up (by decide))) (hd := (by decide))
  have c__law_body_3 := ok__law_body (P := P) (w := w) (base := base) (k := 5) (d := 3) T__law_body (m_range := m_range) (c__law_draw := (c__law_draw.up (by decide))) (c__law_body := (c__law_body_2.up (by decide) |>.wk fun _ _ _ _ h => h.2)) (c__law_of := (c__law_of.up (by decide))) (c__law_simple := (c__law_simple.up (by decide))) (hd := (by decide))
  have c__law_loop := ok__law_loop (P := P) (w := w) (base := base) (k := 6) T__law_loop (c__law_draw := (c__law_draw.up (by decide))) (c__law_size := (c__law_size_3.up (by decide))) (c__law_bent := (c__law_bent.up (by decide))) (c__law_known := (c__law_known.up (by decide))) (c__law_body := (c__law_body_3.up (by decide)))
  have Fu__law_source := fun_mk (st := s__law_source) l__law_source co__law_source k__law_source
  have T__law_source : TopD K mg "_law_source" ["script", "k"] s__law_source := ⟨f__law_source, _, Fu__law_source, PySem.W.mg_of X G a__law_source, Fu__law_source.binds (ps := ["script", "k"]) fun _ _ _ _ _ _ us hl => match us, hl with | [_, _], _ => rfl⟩
  have m_abs : mg "abs" = none := PySem.W.mg_none_of X G z_abs
  have c__law_source := ok__law_source (P := P) (w := w) (base := base) (k := 0) T__law_source (m_int := m_int) (m_len := m_len) (m_abs := m_abs)
  exact ok_law (k := 23) Fu_law (c_starts := (cr_starts.up (by decide))) (c_done := (cr_done.up (by decide))) (c_latenesses := (cr_latenesses.up (by decide))) (m_range := m_range) (m_min := m_min) (m_len := m_len) (m_isinstance := m_isinstance) (m_list := m_list) (c__law_moments := (cr__law_moments.up (by decide))) (c__law_row := (c__law_row.up (by decide))) (c__law_loop := (c__law_loop.up (by decide))) (c__law_source := (c__law_source.up (by decide)))
end Kp
open PySem PySem.W PyProof.Rows
set_option maxRecDepth 100000 in
set_option maxHeartbeats 0 in
theorem PySem.Challenge.cw_keptpace_k02_rounds_done_holds : PySem.Challenge.rw_keptpace_k02_rounds_done.Holds := by
  w_on; o_law; k_head; (case hw => w_witness2)
  k_fill
  refine L2.walk_of (l := PySem.Challenge.rw_keptpace_k02_rounds_done) (n := 63) (k := 24) (x := "script") (CX := fun w => L2.CX (PySem.Challenge.rw_keptpace_k02_rounds_done).prog w) (sp := fun w => Pl.spP _ 1 Kt.φ_law) rfl (by decide) rfl ⟨rfl, by decide, by decide⟩ (fun w h Y => PySem.W.kIn_of Y) ?F (fun _ _ a ns hl hO hS => Pl.law_sp (fun ds Wo Q E e h => by subst e; exact ⟨ns, rfl, hl, h⟩) hO hS) fun _ _ _ _ _ z => Pl.cx_end z
  case F =>
    intro w mg fa h KX G hmg
    refine' Kp.top_mk KX G hmg ?a_law ?l_law ?co_law ?k_law ?a_starts ?l_starts ?co_starts ?k_starts ?a_moments ?l_moments ?co_moments ?k_moments ?a_states_of ?l_states_of ?co_states_of ?k_states_of ?a_round_done ?l_round_done ?co_round_done ?k_round_done ?a_body_done ?l_body_done ?co_body_done ?k_body_done ?a_bodies_of ?l_bodies_of ?co_bodies_of ?k_bodies_of ?z_list ?a_listed ?l_listed ?co_listed ?k_listed ?z_len ?z_sum ?a_holds ?l_holds ?co_holds ?k_holds ?a_marked ?l_marked ?co_marked ?k_marked ?a_waited ?l_waited ?co_waited ?k_waited ?z_max ?a_begun ?l_begun ?co_begun ?k_begun ?a_need_row ?l_need_row ?co_need_row ?k_need_row ?a_is_good_row ?l_is_good_row ?co_is_good_row ?k_is_good_row ?z_all ?a_is_time ?l_is_time ?co_is_time ?k_is_time ?a_is_number ?l_is_number ?co_is_number ?k_is_number ?z_isinstance ?z_bool ?z_int ?z_tuple ?aE_InvalidRow ?xE_InvalidRow ?kE_InvalidRow ?bE_InvalidRow ?tE_InvalidRow ?a_need_loop ?l_need_loop ?co_need_loop ?k_need_loop ?a_is_loop ?l_is_loop ?co_is_loop ?k_is_loop ?v_MOST_STATEMENTS ?a_is_body ?l_is_body ?co_is_body ?k_is_body ?a_is_statement ?l_is_statement ?co_is_statement ?k_is_statement ?a_is_counted ?l_is_counted ?co_is_counted ?k_is_counted ?v_MOST_TIME ?v_LEAST_NUMBERS ?lk_LEAST_NUMBERS ?kk_LEAST_NUMBERS ?e0_LEAST_NUMBERS ?e1_LEAST_NUMBERS ?e2_LEAST_NUMBERS ?e3_LEAST_NUMBERS ?e4_LEAST_NUMBERS ?e5_LEAST_NUMBERS ?a_is_test ?l_is_test ?co_is_test ?k_is_test ?a_is_worded ?l_is_worded ?co_is_worded ?k_is_worded ?z_str ?v_MOST_DEEP ?aE_InvalidLoop ?xE_InvalidLoop ?kE_InvalidLoop ?bE_InvalidLoop ?tE_InvalidLoop ?a_done ?l_done ?co_done ?k_done ?z_sorted ?a_latenesses ?l_latenesses ?co_latenesses ?k_latenesses ?z_range ?z_min ?a__law_moments ?l__law_moments ?co__law_moments ?k__law_moments ?a__law_round ?l__law_round ?co__law_round ?k__law_round ?a__law_do ?l__law_do ?co__law_do ?k__law_do ?a__law_size ?l__law_size ?co__law_size ?k__law_size ?a__law_row ?l__law_row ?co__law_row ?k__law_row ?a__law_draw ?l__law_draw ?co__law_draw ?k__law_draw ?a__law_of ?l__law_of ?co__law_of ?k__law_of ?a__law_loop ?l__law_loop ?co__law_loop ?k__law_loop ?a__law_bent ?l__law_bent ?co__law_bent ?k__law_bent ?a__law_simple ?l__law_simple ?co__law_simple ?k__law_simple ?a__law_known ?l__law_known ?co__law_known ?k__law_known ?a__law_body ?l__law_body ?co__law_body ?k__law_body ?a__law_source ?l__law_source ?co__law_source ?k__law_source ?z_abs
    (case a_law => k_is)
    (case l_law => k_is)
    (case co_law => k_is)
    (case k_law => k_is)
    (case a_starts => k_is)
    (case l_starts => k_is)
    (case co_starts => k_is)
    (case k_starts => k_is)
    (case a_moments => k_is)
    (case l_moments => k_is)
    (case co_moments => k_is)
    (case k_moments => k_is)
    (case a_states_of => k_is)
    (case l_states_of => k_is)
    (case co_states_of => k_is)
    (case k_states_of => k_is)
    (case a_round_done => k_is)
    (case l_round_done => k_is)
    (case co_round_done => k_is)
    (case k_round_done => k_is)
    (case a_body_done => k_is)
    (case l_body_done => k_is)
    (case co_body_done => k_is)
    (case k_body_done => k_is)
    (case a_bodies_of => k_is)
    (case l_bodies_of => k_is)
    (case co_bodies_of => k_is)
    (case k_bodies_of => k_is)
    (case z_list => k_is)
    (case a_listed => k_is)
    (case l_listed => k_is)
    (case co_listed => k_is)
    (case k_listed => k_is)
    (case z_len => k_is)
    (case z_sum => k_is)
    (case a_holds => k_is)
    (case l_holds => k_is)
    (case co_holds => k_is)
    (case k_holds => k_is)
    (case a_marked => k_is)
    (case l_marked => k_is)
    (case co_marked => k_is)
    (case k_marked => k_is)
    (case a_waited => k_is)
    (case l_waited => k_is)
    (case co_waited => k_is)
    (case k_waited => k_is)
    (case z_max => k_is)
    (case a_begun => k_is)
    (case l_begun => k_is)
    (case co_begun => k_is)
    (case k_begun => k_is)
    (case a_need_row => k_is)
    (case l_need_row => k_is)
    (case co_need_row => k_is)
    (case k_need_row => k_is)
    (case a_is_good_row => k_is)
    (case l_is_good_row => k_is)
    (case co_is_good_row => k_is)
    (case k_is_good_row => k_is)
    (case z_all => k_is)
    (case a_is_time => k_is)
    (case l_is_time => k_is)
    (case co_is_time => k_is)
    (case k_is_time => k_is)
    (case a_is_number => k_is)
    (case l_is_number => k_is)
    (case co_is_number => k_is)
    (case k_is_number => k_is)
    (case z_isinstance => k_is)
    (case z_bool => k_is)
    (case z_int => k_is)
    (case z_tuple => k_is)
    (case aE_InvalidRow => k_is)
    (case xE_InvalidRow => k_exc)
    (case kE_InvalidRow => k_is)
    (case bE_InvalidRow => k_is)
    (case tE_InvalidRow => k_is)
    (case a_need_loop => k_is)
    (case l_need_loop => k_is)
    (case co_need_loop => k_is)
    (case k_need_loop => k_is)
    (case a_is_loop => k_is)
    (case l_is_loop => k_is)
    (case co_is_loop => k_is)
    (case k_is_loop => k_is)
    (case v_MOST_STATEMENTS => k_is)
    (case a_is_body => k_is)
    (case l_is_body => k_is)
    (case co_is_body => k_is)
    (case k_is_body => k_is)
    (case a_is_statement => k_is)
    (case l_is_statement => k_is)
    (case co_is_statement => k_is)
    (case k_is_statement => k_is)
    (case a_is_counted => k_is)
    (case l_is_counted => k_is)
    (case co_is_counted => k_is)
    (case k_is_counted => k_is)
    (case v_MOST_TIME => k_is)
    (case v_LEAST_NUMBERS => k_is)
    (case lk_LEAST_NUMBERS => k_is)
    (case kk_LEAST_NUMBERS => k_keys)
    (case e0_LEAST_NUMBERS => k_is)
    (case e1_LEAST_NUMBERS => k_is)
    (case e2_LEAST_NUMBERS => k_is)
    (case e3_LEAST_NUMBERS => k_is)
    (case e4_LEAST_NUMBERS => k_is)
    (case e5_LEAST_NUMBERS => k_is)
    (case a_is_test => k_is)
    (case l_is_test => k_is)
    (case co_is_test => k_is)
    (case k_is_test => k_is)
    (case a_is_worded => k_is)
    (case l_is_worded => k_is)
    (case co_is_worded => k_is)
    (case k_is_worded => k_is)
    (case z_str => k_is)
    (case v_MOST_DEEP => k_is)
    (case aE_InvalidLoop => k_is)
    (case xE_InvalidLoop => k_exc)
    (case kE_InvalidLoop => k_is)
    (case bE_InvalidLoop => k_is)
    (case tE_InvalidLoop => k_is)
    (case a_done => k_is)
    (case l_done => k_is)
    (case co_done => k_is)
    (case k_done => k_is)
    (case z_sorted => k_is)
    (case a_latenesses => k_is)
    (case l_latenesses => k_is)
    (case co_latenesses => k_is)
    (case k_latenesses => k_is)
    (case z_range => k_is)
    (case z_min => k_is)
    (case a__law_moments => k_is)
    (case l__law_moments => k_is)
    (case co__law_moments => k_is)
    (case k__law_moments => k_is)
    (case a__law_round => k_is)
    (case l__law_round => k_is)
    (case co__law_round => k_is)
    (case k__law_round => k_is)
    (case a__law_do => k_is)
    (case l__law_do => k_is)
    (case co__law_do => k_is)
    (case k__law_do => k_is)
    (case a__law_size => k_is)
    (case l__law_size => k_is)
    (case co__law_size => k_is)
    (case k__law_size => k_is)
    (case a__law_row => k_is)
    (case l__law_row => k_is)
    (case co__law_row => k_is)
    (case k__law_row => k_is)
    (case a__law_draw => k_is)
    (case l__law_draw => k_is)
    (case co__law_draw => k_is)
    (case k__law_draw => k_is)
    (case a__law_of => k_is)
    (case l__law_of => k_is)
    (case co__law_of => k_is)
    (case k__law_of => k_is)
    (case a__law_loop => k_is)
    (case l__law_loop => k_is)
    (case co__law_loop => k_is)
    (case k__law_loop => k_is)
    (case a__law_bent => k_is)
    (case l__law_bent => k_is)
    (case co__law_bent => k_is)
    (case k__law_bent => k_is)
    (case a__law_simple => k_is)
    (case l__law_simple => k_is)
    (case co__law_simple => k_is)
    (case k__law_simple => k_is)
    (case a__law_known => k_is)
    (case l__law_known => k_is)
    (case co__law_known => k_is)
    (case k__law_known => k_is)
    (case a__law_body => k_is)
    (case l__law_body => k_is)
    (case co__law_body => k_is)
    (case k__law_body => k_is)
    (case a__law_source => k_is)
    (case l__law_source => k_is)
    (case co__law_source => k_is)
    (case k__law_source => k_is)
    (case z_abs => k_is)
#print axioms PySem.Challenge.cw_keptpace_k02_rounds_done_holds
