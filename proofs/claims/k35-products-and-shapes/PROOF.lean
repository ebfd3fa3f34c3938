import HandS.ForMost
import HandS.ForExc
import HandS.IsInst
import KE.GoesNew
import PyProof.ReprRoads
import HandS.Ends
import PyProof.Rows.StrJoinMade
import PyProof.ReprLen
import PyProof.P3Eq
import PySem.Challenge.RW_formatrepair_k35_products_and_shapes
import PyProof.Rows.All
import Wide.All
import OpenK.AllK
import Wide.FinOn
set_option Elab.async false
set_option linter.all false
set_option maxRecDepth 100000
set_option maxHeartbeats 4000000
namespace Z
open PySem PySem.Spec PyProof.Rows L2
/-! ### data -/
inductive D where
  | non | bl (b : Bool) | int (i : Int) | str (s : Str)
  | lst (ds : List D) | tup (ds : List D) | scr (ns : List Int)
  | dk (ks : List Key) (ds : List D) | dt (ks : List (List Key)) (ds : List D)
  | ins (C : Addr) (ks : List Str) (ds : List D)
def Sb (Φ H : Hp) : Prop := ∀ a o, Φ a = some o → H a = some o
theorem Sb.refl (Φ : Hp) : Sb Φ Φ := fun _ _ h => h
theorem Sb.trans {A B C : Hp} (h : Sb A B) (k : Sb B C) : Sb A C := fun a o e => k a o (h a o e)
theorem Sb.new {H : Hp} {p : Addr} {o : HO} (h : H p = none) : Sb H (upd H p o) := fun a u e => by
  rw [upd_ne (ne_of_none e h)]; exact e
theorem Sb.none {A B : Hp} (h : Sb A B) {a : Addr} (e : B a = Option.none) : A a = Option.none := by
  cases q : A a with
  | none => rfl
  | some o => rw [h a o q] at e; cases e
mutual
inductive Rep (K : PySem.W.Frag) (Φ : Hp) : V → D → Prop
  | non : Rep K Φ .non .non
  | bl (b : Bool) : Rep K Φ (.bl b) (.bl b)
  | int (i : Int) : Rep K Φ (.int i) (.int i)
  | str (s : Str) : Rep K Φ (.str s) (.str s)
  | lst {a : Addr} {xs : List V} {ds : List D} : Φ a = some (.lst xs) → Reps K Φ xs ds → Rep K Φ (.ref a) (.lst ds)
  | tup {a : Addr} {xs : List V} {ds : List D} : Φ a = some (.tup xs) → Reps K Φ xs ds → Rep K Φ (.ref a) (.tup ds)
  | scr {a : Addr} {ns : List Int} : SqL K Φ a (ns.map V.int) → Rep K Φ (.ref a) (.scr ns)
  | dk {a : Addr} {ks : List Key} {xs : List V} {ds : List D} : Φ a = some (.dK (ks.zip xs)) → ks.length = xs.length → Reps K Φ xs ds → Rep K Φ (.ref a) (.dk ks ds)
  | dt {a : Addr} {ks : List (List Key)} {xs : List V} {ds : List D} : Φ a = some (.dT (ks.zip xs)) → ks.length = xs.length → Reps K Φ xs ds → Rep K Φ (.ref a) (.dt ks ds)
  | ins {a C dx : Addr} {ks : List Str} {xs : List V} {ds : List D} : Φ a = some (.ins C dx (ks.zip xs)) → ks.length = xs.length → Reps K Φ xs ds → Rep K Φ (.ref a) (.ins C ks ds)
inductive Reps (K : PySem.W.Frag) (Φ : Hp) : List V → List D → Prop
  | nil : Reps K Φ [] []
  | cons {v : V} {vs : List V} {d : D} {ds : List D} : Rep K Φ v d → Reps K Φ vs ds → Reps K Φ (v :: vs) (d :: ds)
end
section
variable {K : PySem.W.Frag} {Φ Φ' : Hp}
theorem sb_sql {a : Addr} {xs : List V} (e : Sb Φ Φ') (h : SqL K Φ a xs) : SqL K Φ' a xs := by
  rcases h with (h | ⟨o, h⟩) | h
  · exact .inl (.inl (e _ _ h))
  · exact .inl (.inr ⟨o, e _ _ h⟩)
  · exact .inr h
mutual
theorem Rep.mono (e : Sb Φ Φ') : ∀ (d : D) (v : V), Rep K Φ v d → Rep K Φ' v d
  | .non, _, .non => .non
  | .bl _, _, .bl b => .bl b
  | .int _, _, .int i => .int i
  | .str _, _, .str s => .str s
  | .lst ds, _, .lst h r => .lst (e _ _ h) (Reps.mono e ds _ r)
  | .tup ds, _, .tup h r => .tup (e _ _ h) (Reps.mono e ds _ r)
  | .scr _, _, .scr h => .scr (sb_sql e h)
  | .dk _ ds, _, .dk h l r => .dk (e _ _ h) l (Reps.mono e ds _ r)
  | .dt _ ds, _, .dt h l r => .dt (e _ _ h) l (Reps.mono e ds _ r)
  | .ins _ _ ds, _, .ins h l r => .ins (e _ _ h) l (Reps.mono e ds _ r)
theorem Reps.mono (e : Sb Φ Φ') : ∀ (ds : List D) (vs : List V), Reps K Φ vs ds → Reps K Φ' vs ds
  | [], _, .nil => .nil
  | d :: ds, _, .cons h r => .cons (Rep.mono e d _ h) (Reps.mono e ds _ r)
end
theorem Rep.up {v : V} {d : D} (h : Rep K Φ v d) (e : Sb Φ Φ') : Rep K Φ' v d := Rep.mono e d v h
theorem Reps.up {vs : List V} {ds : List D} (h : Reps K Φ vs ds) (e : Sb Φ Φ') : Reps K Φ' vs ds := Reps.mono e ds vs h
theorem Reps.length : ∀ {vs : List V} {ds : List D}, Reps K Φ vs ds → vs.length = ds.length
  | _, _, .nil => rfl
  | _, _, .cons _ r => congrArg (· + 1) (Reps.length r)
theorem Reps.get : ∀ {vs : List V} {ds : List D} {i : Nat} {d : D}, Reps K Φ vs ds → ds[i]? = some d → ∃ v, vs[i]? = some v ∧ Rep K Φ v d
  | _, _, _, _, .nil, e => by simp at e
  | _, _, 0, _, .cons h _, e => by simp at e; subst e; exact ⟨_, rfl, h⟩
  | _, _, i + 1, d, .cons _ r, e => by
    obtain ⟨v, a, b⟩ := Reps.get (i := i) (d := d) r (by simpa using e)
    exact ⟨v, by simpa using a, b⟩
theorem Reps.getV : ∀ {vs : List V} {ds : List D} {i : Nat} {v : V}, Reps K Φ vs ds → vs[i]? = some v → ∃ d, ds[i]? = some d ∧ Rep K Φ v d
  | _, _, _, _, .nil, e => by simp at e
  | _, _, 0, _, .cons h _, e => by simp at e; subst e; exact ⟨_, rfl, h⟩
  | _, _, i + 1, v, .cons _ r, e => by
    obtain ⟨d, a, b⟩ := Reps.getV (i := i) (v := v) r (by simpa using e)
    exact ⟨d, by simpa using a, b⟩
theorem Reps.app : ∀ {vs : List V} {ds : List D} {vs' : List V} {ds' : List D}, Reps K Φ vs ds → Reps K Φ vs' ds' → Reps K Φ (vs ++ vs') (ds ++ ds')
  | _, _, _, _, .nil, h => h
  | _, _, _, _, .cons a r, h => .cons a (Reps.app r h)
theorem Reps.one {v : V} {d : D} (h : Rep K Φ v d) : Reps K Φ [v] [d] := .cons h .nil
theorem Reps.set : ∀ {vs : List V} {ds : List D} (i : Nat) {v : V} {d : D}, Rep K Φ v d → Reps K Φ vs ds → Reps K Φ (vs.set i v) (ds.set i d)
  | _, _, _, _, _, _, .nil => .nil
  | _, _, 0, _, _, h, .cons _ r => .cons h r
  | _, _, i + 1, _, _, h, .cons a r => .cons a (Reps.set i h r)
theorem Reps.ints : ∀ (ns : List Int), Reps K Φ (ns.map V.int) (ns.map D.int)
  | [] => .nil
  | n :: r => .cons (.int n) (Reps.ints r)
theorem Reps.drop : ∀ (n : Nat) {vs : List V} {ds : List D}, Reps K Φ vs ds → Reps K Φ (vs.drop n) (ds.drop n)
  | 0, _, _, h => h
  | _ + 1, _, _, .nil => .nil
  | n + 1, _, _, .cons _ r => Reps.drop n r
theorem Reps.take : ∀ (n : Nat) {vs : List V} {ds : List D}, Reps K Φ vs ds → Reps K Φ (vs.take n) (ds.take n)
  | 0, _, _, _ => .nil
  | _ + 1, _, _, .nil => .nil
  | n + 1, _, _, .cons h r => .cons h (Reps.take n r)
end
/-! ### the state -/
inductive W where
  | fr (d : D) | loc (k : Nat)
inductive Cell where
  | lst (ws : List W) | tup (ws : List W) | dk (ks : List Key) (ws : List W) | dt (ks : List (List Key)) (ws : List W) | ins (C : Addr) (ks : List Str) (ws : List W) | frz (d : D)
structure S where
  env : List (Option W)
  st : List Cell
/-- an exception: its class, its fields, what they hold -/
structure Err where
  cls : Addr
  fs : List (Str × W)
inductive R (α : Type) where
  | bad | ok (a : α) (s : S) | er (e : Err) (s : S)
def R.then {α β : Type} (r : R α) (f : α → S → R β) : R β :=
  match r with
  | .bad => .bad
  | .ok a s => f a s
  | .er e s => .er e s
section
variable (K : PySem.W.Frag) 
def WAt (κ : List Addr) (Φ : Hp) (v : V) : W → Prop
  | .fr d => Rep K Φ v d
  | .loc k => ∃ a, κ[k]? = some a ∧ v = .ref a
abbrev WsAt (κ : List Addr) (Φ : Hp) : List V → List W → Prop := Paired (fun v w => WAt K κ Φ v w)
def CellAt (κ : List Addr) (Φ H : Hp) (a : Addr) : Cell → Prop
  | .lst ws => Φ a = none ∧ ∃ xs, H a = some (.lst xs) ∧ WsAt K κ Φ xs ws
  | .tup ws => Φ a = none ∧ ∃ xs, H a = some (.tup xs) ∧ WsAt K κ Φ xs ws
  | .dk ks ws => Φ a = none ∧ ∃ xs, H a = some (.dK (ks.zip xs)) ∧ ks.length = xs.length ∧ WsAt K κ Φ xs ws
  | .dt ks ws => Φ a = none ∧ ∃ xs, H a = some (.dT (ks.zip xs)) ∧ ks.length = xs.length ∧ WsAt K κ Φ xs ws
  | .ins C ks ws => Φ a = none ∧ ∃ dx xs, H a = some (.ins C dx (ks.zip xs)) ∧ ks.length = xs.length ∧ WsAt K κ Φ xs ws
  | .frz d => Φ a ≠ none ∧ Rep K Φ (.ref a) d
structure SR (κ : List Addr) (Φ H : Hp) (σ : L2.St) (s : S) : Prop where
  sb : Sb Φ H
  nd : κ.Nodup
  len : κ.length = s.st.length
  cells : ∀ (k : Nat) (c : Cell) (a : Addr), s.st[k]? = some c → κ[k]? = some a → CellAt K κ Φ H a c
  slen : σ.length = s.env.length
  env : ∀ (i : Nat) (w : W), s.env[i]? = some (some w) → ∃ v, σ[i]? = some (some v) ∧ WAt K κ Φ v w
end
structure Stp (κ : List Addr) (Φ H : Hp) (κ' : List Addr) (Φ' H' : Hp) : Prop where
  fz : Sb Φ Φ'
  fr : ∀ a o, H a = some o → a ∉ κ → H' a = some o
  kp : ∃ new, κ' = κ ++ new ∧ ∀ a ∈ new, H a = none
  nf : ∀ a o, Φ' a = some o → Φ a = some o ∨ H a = none ∨ a ∈ κ
  al : ∀ a o, H a = some o → H' a ≠ none
theorem Stp.refl (κ : List Addr) (Φ H : Hp) : Stp κ Φ H κ Φ H :=
  ⟨Sb.refl Φ, fun _ _ e _ => e, ⟨[], by simp, by simp⟩, fun _ _ e => .inl e, fun _ _ e => by rw [e]; simp⟩
theorem Stp.trans {κ κ1 κ2 : List Addr} {Φ H Φ1 H1 Φ2 H2 : Hp} (a : Stp κ Φ H κ1 Φ1 H1) (b : Stp κ1 Φ1 H1 κ2 Φ2 H2) : Stp κ Φ H κ2 Φ2 H2 := by
  obtain ⟨n1, e1, f1⟩ := a.kp
  obtain ⟨n2, e2, f2⟩ := b.kp
  have back : ∀ p, H1 p = none → H p = none := fun p h => by
    cases q : H p with
    | none => rfl
    | some o => exact absurd h (a.al p o q)
  refine ⟨a.fz.trans b.fz, fun p o h hp => ?_, ⟨n1 ++ n2, by rw [e2, e1, List.append_assoc], fun p hp => ?_⟩, fun p o h => ?_, fun p o h => ?_⟩
  · refine b.fr p o (a.fr p o h hp) fun hm => ?_
    rw [e1] at hm
    rcases List.mem_append.mp hm with z | z
    · exact hp z
    · rw [f1 p z] at h; cases h
  · rcases List.mem_append.mp hp with z | z
    · exact f1 p z
    · exact back p (f2 p z)
  · rcases b.nf p o h with z | z | z
    · exact a.nf p o z
    · exact .inr (.inl (back p z))
    · rw [e1] at z
      rcases List.mem_append.mp z with z | z
      · exact .inr (.inr z)
      · exact .inr (.inl (f1 p z))
  · cases q : H1 p with
    | none => exact absurd q (a.al p o h)
    | some o1 => exact b.al p o1 q
theorem Stp.kget {κ κ' : List Addr} {Φ H Φ' H' : Hp} (a : Stp κ Φ H κ' Φ' H') {k : Nat} {p : Addr} (h : κ[k]? = some p) : κ'[k]? = some p := by
  obtain ⟨n, e, _⟩ := a.kp
  rw [e, List.getElem?_append_left (List.getElem?_eq_some_iff.mp h).1]
  exact h
theorem WAt.up {K : PySem.W.Frag} {κ κ' : List Addr} {Φ H Φ' H' : Hp} {v : V} {w : W} (h : WAt K κ Φ v w) (a : Stp κ Φ H κ' Φ' H') : WAt K κ' Φ' v w := by
  cases w with
  | fr d => exact Rep.up h a.fz
  | loc k => obtain ⟨p, e, r⟩ := h; exact ⟨p, a.kget e, r⟩
def Pre (κ κ' : List Addr) : Prop := ∀ (k : Nat) (a : Addr), κ[k]? = some a → κ'[k]? = some a
theorem Pre.refl (κ : List Addr) : Pre κ κ := fun _ _ h => h
theorem Stp.pre {κ κ' : List Addr} {Φ H Φ' H' : Hp} (a : Stp κ Φ H κ' Φ' H') : Pre κ κ' := fun _ _ h => a.kget h
theorem wat_pre {K : PySem.W.Frag} {κ κ' : List Addr} {Φ Φ' : Hp} {v : V} {w : W} (h : WAt K κ Φ v w) (e : Sb Φ Φ') (p : Pre κ κ') : WAt K κ' Φ' v w := by
  cases w with
  | fr d => exact Rep.up h e
  | loc k => obtain ⟨a, q, r⟩ := h; exact ⟨a, p k a q, r⟩
theorem wsat_pre {K : PySem.W.Frag} {κ κ' : List Addr} {Φ Φ' : Hp} {vs : List V} {ws : List W} (h : WsAt K κ Φ vs ws) (e : Sb Φ Φ') (p : Pre κ κ') : WsAt K κ' Φ' vs ws :=
  Paired.mapP h fun v w q => wat_pre q e p
theorem WsUp {K : PySem.W.Frag} {κ κ' : List Addr} {Φ H Φ' H' : Hp} {vs : List V} {ws : List W} (h : WsAt K κ Φ vs ws) (a : Stp κ Φ H κ' Φ' H') : WsAt K κ' Φ' vs ws := Paired.mapP h fun v w q => q.up a
/-- how a raised exception lies -/
def ErrAt (K : PySem.W.Frag) (κ : List Addr) (Φ H : Hp) (e : Err) (dd : Addr) : Prop :=
  ∃ vs, H dd = some (.xd vs) ∧ Paired (fun (p : Str × V) (q : Str × W) => p.1 = q.1 ∧ WAt K κ Φ p.2 q.2) vs e.fs
/-! ### judgements -/
section
variable (K : PySem.W.Frag) (Wx : WX)
/-- what is asked of an expression's outcome -/
def Po {α β : Type} (G : List Addr → Hp → Hp → Hp → β → α → Prop) (κ : List Addr) (Φ H : Hp) (σ : L2.St) (r : R α) (Q : β → Hp → Prop) : Prop :=
  match r with
  | .bad => False
  | .ok w s' => ∀ v κ' Φ' H', Stp κ Φ H κ' Φ' H' → SR K κ' Φ' H' σ s' → G κ' Φ' H H' v w → Q v H'
  | .er e s' => ∀ dd κ' Φ' H', Stp κ Φ H κ' Φ' H' → SR K κ' Φ' H' σ s' → ErrAt K κ' Φ' H' e dd → Wx (.ref e.cls) (some dd) σ H'
def GW : List Addr → Hp → Hp → Hp → V → W → Prop := fun κ' Φ' _ _ v w => WAt K κ' Φ' v w
/-- a fresh list -/
def GN : List Addr → Hp → Hp → Hp → V → List W → Prop := fun κ' Φ' H H' v ws => ∃ p xs, v = .ref p ∧ H p = none ∧ Φ' p = none ∧ p ∉ κ' ∧ H' p = some (.lst xs) ∧ WsAt K κ' Φ' xs ws
def GB : List Addr → Hp → Hp → Hp → Bool → Bool → Prop := fun _ _ _ _ b c => b = c
def GA : List Addr → Hp → Hp → Hp → List V → List W → Prop := fun κ' Φ' _ _ vs ws => Paired (fun v w => WAt K κ' Φ' v w) vs ws
def tG {α β : Type} (G : List Addr → Hp → Hp → Hp → β → α → Prop) (m : S → R α) : L2.St → Hp → (β → Hp → Prop) → Prop :=
  fun σ H Q => ∃ κ Φ s, SR K κ Φ H σ s ∧ Po K Wx G κ Φ H σ (m s) Q
end
def ZE (X : Cx) (Wx : WX) (e : Expr) (m : S → R W) : Prop := PE X e (tG X.K Wx (GW X.K) m)
def ZN (X : Cx) (Wx : WX) (e : Expr) (m : S → R (List W)) : Prop := PE X e (tG X.K Wx (GN X.K) m)
def ZT (X : Cx) (Wx : WX) (e : Expr) (m : S → R Bool) : Prop := PT X e (tG X.K Wx GB m)
def ZA (X : Cx) (Wx : WX) (es : List Expr) (m : S → R (List W)) : Prop := PA X es (tG X.K Wx (GA X.K) m)
theorem PE.imp {X : Cx} {e : Expr} {t t' : TE} (h : PE X e t) (k : ∀ σ H Q, t' σ H Q → t σ H Q) : PE X e t' := ⟨fun pins s σ H Q I q => h.run pins s σ H Q I (k σ H Q q)⟩
theorem PT.imp {X : Cx} {e : Expr} {t t' : TT} (h : PT X e t) (k : ∀ σ H Q, t' σ H Q → t σ H Q) : PT X e t' := ⟨fun pins s σ H Q I q => h.run pins s σ H Q I (k σ H Q q)⟩
theorem PA.imp {X : Cx} {es : List Expr} {t t' : TA} (h : PA X es t) (k : ∀ σ H Q, t' σ H Q → t σ H Q) : PA X es t' := ⟨fun pos pins s σ H Q I q => h.run pos pins s σ H Q I (k σ H Q q)⟩
theorem PS.imp {X : Cx} {e : Stmt} {t t' : TS} (h : PS X e t) (k : ∀ D σ H, t' D σ H → t D σ H) : PS X e t' := ⟨fun pins s σ H D I q => h.run pins s σ H D I (k D σ H q)⟩
theorem PSs.imp {X : Cx} {e : List Stmt} {t t' : TS} (h : PSs X e t) (k : ∀ D σ H, t' D σ H → t D σ H) : PSs X e t' := ⟨fun pins s σ H D I q => h.run pins s σ H D I (k D σ H q)⟩
section
variable {K : PySem.W.Frag} {Wx : WX}
/-- one step, then the rest: the outcome of a sequence, from the first part's -/
theorem Po.seq {α β γ δ : Type} {G : List Addr → Hp → Hp → Hp → β → α → Prop} {G' : List Addr → Hp → Hp → Hp → δ → γ → Prop} {κ : List Addr} {Φ H : Hp} {σ : L2.St} {r : R α} {f : α → S → R γ} {Q : δ → Hp → Prop}
    (hG : ∀ {κ1 κ' : List Addr} {Φ1 H1 Φ' H' : Hp} {v : δ} {w : γ}, Stp κ Φ H κ1 Φ1 H1 → G' κ' Φ' H1 H' v w → G' κ' Φ' H H' v w)
    (h : Po K Wx G' κ Φ H σ (r.then f) Q) :
    Po K Wx G κ Φ H σ r (fun v H1 => ∃ κ1 Φ1 s1 w, SR K κ1 Φ1 H1 σ s1 ∧ Stp κ Φ H κ1 Φ1 H1 ∧ G κ1 Φ1 H H1 v w ∧ Po K Wx G' κ1 Φ1 H1 σ (f w s1) Q) := by
  cases r with
  | bad => exact h
  | er e s => exact fun dd κ' Φ' H' st sr ea => h dd κ' Φ' H' st sr ea
  | ok a s =>
    intro v κ1 Φ1 H1 st sr g
    refine ⟨κ1, Φ1, s, a, sr, st, g, ?_⟩
    have h' : Po K Wx G' κ Φ H σ (f a s) Q := h
    revert h'
    generalize f a s = r'
    intro h'
    cases r' with
    | bad => exact h'
    | er e s' => exact fun dd κ' Φ' H' st' sr' ea => h' dd κ' Φ' H' (st.trans st') sr' ea
    | ok b s' => exact fun v' κ' Φ' H' st' sr' g' => h' v' κ' Φ' H' (st.trans st') sr' (hG st g')
theorem Po.weak {α β : Type} {G : List Addr → Hp → Hp → Hp → β → α → Prop} {κ : List Addr} {Φ H : Hp} {σ : L2.St} {r : R α} {Q Q' : β → Hp → Prop} (h : Po K Wx G κ Φ H σ r Q) (k : ∀ v H', Q v H' → Q' v H') : Po K Wx G κ Φ H σ r Q' := by
  cases r with
  | bad => exact h
  | er e s => exact h
  | ok a s => exact fun v κ' Φ' H' st sr g => k _ _ (h v κ' Φ' H' st sr g)
theorem gw_step {κ κ1 κ' : List Addr} {Φ H Φ1 H1 Φ' H' : Hp} {v : V} {w : W} (_ : Stp κ Φ H κ1 Φ1 H1) (g : GW K κ' Φ' H1 H' v w) : GW K κ' Φ' H H' v w := g
theorem gb_step {κ κ1 κ' : List Addr} {Φ H Φ1 H1 Φ' H' : Hp} {v : Bool} {w : Bool} (_ : Stp κ Φ H κ1 Φ1 H1) (g : GB κ' Φ' H1 H' v w) : GB κ' Φ' H H' v w := g
theorem ga_step {κ κ1 κ' : List Addr} {Φ H Φ1 H1 Φ' H' : Hp} {v : List V} {w : List W} (_ : Stp κ Φ H κ1 Φ1 H1) (g : GA K κ' Φ' H1 H' v w) : GA K κ' Φ' H H' v w := g
theorem gn_step {κ κ1 κ' : List Addr} {Φ H Φ1 H1 Φ' H' : Hp} {v : V} {w : List W} (a : Stp κ Φ H κ1 Φ1 H1) (g : GN K κ' Φ' H1 H' v w) : GN K κ' Φ' H H' v w := by
  obtain ⟨p, xs, e, h1, r⟩ := g
  refine ⟨p, xs, e, ?_, r⟩
  cases q : H p with
  | none => rfl
  | some o => exact absurd h1 (a.al p o q)
theorem Po.seqW {α β : Type} {G : List Addr → Hp → Hp → Hp → β → α → Prop} {κ : List Addr} {Φ H : Hp} {σ : L2.St} {r : R α} {f : α → S → R W} {Q : V → Hp → Prop} (h : Po K Wx (GW K) κ Φ H σ (r.then f) Q) :
    Po K Wx G κ Φ H σ r (fun v H1 => ∃ κ1 Φ1 s1 w, SR K κ1 Φ1 H1 σ s1 ∧ Stp κ Φ H κ1 Φ1 H1 ∧ G κ1 Φ1 H H1 v w ∧ Po K Wx (GW K) κ1 Φ1 H1 σ (f w s1) Q) := Po.seq (fun a g => gw_step a g) h
theorem Po.seqN {α β : Type} {G : List Addr → Hp → Hp → Hp → β → α → Prop} {κ : List Addr} {Φ H : Hp} {σ : L2.St} {r : R α} {f : α → S → R (List W)} {Q : V → Hp → Prop} (h : Po K Wx (GN K) κ Φ H σ (r.then f) Q) :
    Po K Wx G κ Φ H σ r (fun v H1 => ∃ κ1 Φ1 s1 w, SR K κ1 Φ1 H1 σ s1 ∧ Stp κ Φ H κ1 Φ1 H1 ∧ G κ1 Φ1 H H1 v w ∧ Po K Wx (GN K) κ1 Φ1 H1 σ (f w s1) Q) := Po.seq (fun a g => gn_step a g) h
theorem Po.seqB {α β : Type} {G : List Addr → Hp → Hp → Hp → β → α → Prop} {κ : List Addr} {Φ H : Hp} {σ : L2.St} {r : R α} {f : α → S → R Bool} {Q : Bool → Hp → Prop} (h : Po K Wx GB κ Φ H σ (r.then f) Q) :
    Po K Wx G κ Φ H σ r (fun v H1 => ∃ κ1 Φ1 s1 w, SR K κ1 Φ1 H1 σ s1 ∧ Stp κ Φ H κ1 Φ1 H1 ∧ G κ1 Φ1 H H1 v w ∧ Po K Wx GB κ1 Φ1 H1 σ (f w s1) Q) := Po.seq (fun a g => gb_step a g) h
theorem Po.seqA {α β : Type} {G : List Addr → Hp → Hp → Hp → β → α → Prop} {κ : List Addr} {Φ H : Hp} {σ : L2.St} {r : R α} {f : α → S → R (List W)} {Q : List V → Hp → Prop} (h : Po K Wx (GA K) κ Φ H σ (r.then f) Q) :
    Po K Wx G κ Φ H σ r (fun v H1 => ∃ κ1 Φ1 s1 w, SR K κ1 Φ1 H1 σ s1 ∧ Stp κ Φ H κ1 Φ1 H1 ∧ G κ1 Φ1 H H1 v w ∧ Po K Wx (GA K) κ1 Φ1 H1 σ (f w s1) Q) := Po.seq (fun a g => ga_step a g) h
end
end Z
namespace Z
open PySem PySem.Spec PyProof.Rows L2
/-! ### views -/
def frs : List W → Option (List D)
  | [] => some []
  | .fr d :: ws => (frs ws).map (d :: ·)
  | .loc _ :: _ => none
theorem frs_map : ∀ ds : List D, frs (ds.map W.fr) = some ds
  | [] => rfl
  | d :: ds => by rw [List.map_cons, frs, frs_map ds]; rfl
theorem frs_cons {w : W} {ws : List W} {ds : List D} (h : frs (w :: ws) = some ds) : ∃ d ds', w = .fr d ∧ frs ws = some ds' ∧ ds = d :: ds' := by
  cases w with
  | loc k => cases h
  | fr d =>
    rw [frs] at h
    cases q : frs ws with
    | none => rw [q] at h; cases h
    | some ds' => rw [q] at h; cases h; exact ⟨d, ds', rfl, rfl, rfl⟩
theorem frs_eq : ∀ {ws : List W} {ds : List D}, frs ws = some ds → ws = ds.map W.fr
  | [], _, h => by cases h; rfl
  | w :: ws, _, h => by
    obtain ⟨d, ds', rfl, q, rfl⟩ := frs_cons h
    rw [frs_eq q]; rfl
theorem frs_reps {K : PySem.W.Frag} {κ : List Addr} {Φ : Hp} : ∀ {xs : List V} {ws : List W} {ds : List D}, WsAt K κ Φ xs ws → frs ws = some ds → Reps K Φ xs ds
  | _, _, _, .nil, h => by cases h; exact .nil
  | _, _, _, .cons a r, h => by
    obtain ⟨d, ds', rfl, q, rfl⟩ := frs_cons h
    exact .cons a (frs_reps r q)
theorem reps_ws {K : PySem.W.Frag} {κ : List Addr} {Φ : Hp} : ∀ {xs : List V} {ds : List D}, Reps K Φ xs ds → WsAt K κ Φ xs (ds.map W.fr)
  | _, _, .nil => .nil
  | _, _, .cons a r => .cons a (reps_ws r)
def view (s : S) : W → Option D
  | .fr d => some d
  | .loc k => match s.st[k]? with
    | some (.lst ws) => (frs ws).map .lst
    | some (.tup ws) => (frs ws).map .tup
    | some (.dk ks ws) => (frs ws).map (.dk ks)
    | some (.dt ks ws) => (frs ws).map (.dt ks)
    | some (.ins _ _ _) => none
    | some (.frz d) => some d
    | none => none
/-- a value seen as data: its own object by H, what is in it by Φ -/
def Vw (K : PySem.W.Frag) (Φ H : Hp) (v : V) : D → Prop
  | .lst ds => ∃ a xs, v = .ref a ∧ H a = some (.lst xs) ∧ Reps K Φ xs ds
  | .tup ds => ∃ a xs, v = .ref a ∧ H a = some (.tup xs) ∧ Reps K Φ xs ds
  | .dk ks ds => ∃ a xs, v = .ref a ∧ H a = some (.dK (ks.zip xs)) ∧ ks.length = xs.length ∧ Reps K Φ xs ds
  | .dt ks ds => ∃ a xs, v = .ref a ∧ H a = some (.dT (ks.zip xs)) ∧ ks.length = xs.length ∧ Reps K Φ xs ds
  | d => Rep K Φ v d
section
variable {K : PySem.W.Frag} {κ : List Addr} {Φ H : Hp} {σ : L2.St} {s : S} {v : V} {w : W} {d : D}
theorem Rep.vw (e : Sb Φ H) (h : Rep K Φ v d) : Vw K Φ H v d := by
  cases h with
  | lst h r => exact ⟨_, _, rfl, e _ _ h, r⟩
  | tup h r => exact ⟨_, _, rfl, e _ _ h, r⟩
  | dk h l r => exact ⟨_, _, rfl, e _ _ h, l, r⟩
  | dt h l r => exact ⟨_, _, rfl, e _ _ h, l, r⟩
  | non => exact .non
  | bl b => exact .bl b
  | int i => exact .int i
  | str x => exact .str x
  | scr h => exact .scr h
  | ins h l r => exact .ins h l r
theorem SR.cellAt (I : SR K κ Φ H σ s) {k : Nat} {p : Addr} (hp : κ[k]? = some p) : ∃ c, s.st[k]? = some c ∧ CellAt K κ Φ H p c := by
  have hk : k < s.st.length := by rw [← I.len]; exact (List.getElem?_eq_some_iff.mp hp).1
  exact ⟨_, List.getElem?_eq_getElem hk, I.cells k _ p (List.getElem?_eq_getElem hk) hp⟩
theorem SR.vw (I : SR K κ Φ H σ s) (a : WAt K κ Φ v w) (e : view s w = some d) : Vw K Φ H v d := by
  cases w with
  | fr d' => cases e; exact Rep.vw I.sb a
  | loc k =>
    obtain ⟨p, hp, rfl⟩ := a
    obtain ⟨c, hk, hc⟩ := I.cellAt hp
    unfold view at e
    dsimp only at e
    rw [hk] at e
    cases c with
    | lst ws =>
      obtain ⟨ds, q, rfl⟩ := Option.map_eq_some_iff.mp e
      obtain ⟨_, xs, h, r⟩ := hc; exact ⟨_, _, rfl, h, frs_reps r q⟩
    | tup ws =>
      obtain ⟨ds, q, rfl⟩ := Option.map_eq_some_iff.mp e
      obtain ⟨_, xs, h, r⟩ := hc; exact ⟨_, _, rfl, h, frs_reps r q⟩
    | dk ks ws =>
      obtain ⟨ds, q, rfl⟩ := Option.map_eq_some_iff.mp e
      obtain ⟨_, xs, h, l, r⟩ := hc; exact ⟨_, _, rfl, h, l, frs_reps r q⟩
    | dt ks ws =>
      obtain ⟨ds, q, rfl⟩ := Option.map_eq_some_iff.mp e
      obtain ⟨_, xs, h, l, r⟩ := hc; exact ⟨_, _, rfl, h, l, frs_reps r q⟩
    | ins C ks ws => cases e
    | frz d' => cases e; exact Rep.vw I.sb hc.2
end
/-! ### freezing -/
def frzL (f : W → S → R D) : List W → S → R (List D)
  | [], s => .ok [] s
  | w :: ws, s => (f w s).then fun d s1 => (frzL f ws s1).then fun ds s2 => .ok (d :: ds) s2
def liveC : Cell → Bool | .frz _ => false | _ => true
def mkD : Cell → List D → D
  | .lst _, ds => .lst ds | .tup _, ds => .tup ds | .dk ks _, ds => .dk ks ds | .dt ks _, ds => .dt ks ds | .ins C ks _, ds => .ins C ks ds | .frz d, _ => d
/-- a cell whose parts are frozen is frozen -/
def frzC (k : Nat) (c : Cell) (ds : List D) (s : S) : R D := match s.st[k]? with
  | some c' => if liveC c' = true then .ok (mkD c ds) { s with st := s.st.set k (.frz (mkD c ds)) } else .bad
  | none => .bad
def kids : Cell → List W
  | .lst ws => ws | .tup ws => ws | .dk _ ws => ws | .dt _ ws => ws | .ins _ _ ws => ws | .frz _ => []
def frzN : Nat → W → S → R D
  | _, .fr d, s => .ok d s
  | 0, .loc _, _ => .bad
  | n + 1, .loc k, s => match s.st[k]? with
    | none => .bad
    | some (.frz d) => .ok d s
    | some c => (frzL (frzN n) (kids c) s).then fun ds s1 => frzC k c ds s1
def frz1 (w : W) (s : S) : R D := frzN 8 w s
theorem nodup_get {α : Type} {l : List α} (hN : l.Nodup) {i j : Nat} {x : α} (a : l[i]? = some x) (b : l[j]? = some x) : i = j := by
  obtain ⟨h1, e1⟩ := List.getElem?_eq_some_iff.mp a
  obtain ⟨h2, e2⟩ := List.getElem?_eq_some_iff.mp b
  exact (List.getElem_inj hN).mp (e1.trans e2.symm)
section
variable {K : PySem.W.Frag} {κ : List Addr} {Φ H : Hp} {σ : L2.St} {s s' : S} {v : V} {w : W} {d : D}
theorem CellAt.upk {κ' : List Addr} {Φ' : Hp} {c : Cell} {a : Addr} (h : CellAt K κ Φ H a c) (e : Sb Φ Φ') (pr : Pre κ κ') (n : ∀ o, Φ' a = some o → Φ a = some o) : CellAt K κ' Φ' H a c := by
  have nn : Φ a = none → Φ' a = none := fun z => by
    cases q : Φ' a with
    | none => rfl
    | some o => rw [n o q] at z; cases z
  cases c with
  | lst ds => obtain ⟨z, xs, h1, r⟩ := h; exact ⟨nn z, xs, h1, wsat_pre r e pr⟩
  | tup ds => obtain ⟨z, xs, h1, r⟩ := h; exact ⟨nn z, xs, h1, wsat_pre r e pr⟩
  | dk ks ds => obtain ⟨z, xs, h1, l, r⟩ := h; exact ⟨nn z, xs, h1, l, wsat_pre r e pr⟩
  | dt ks ds => obtain ⟨z, xs, h1, l, r⟩ := h; exact ⟨nn z, xs, h1, l, wsat_pre r e pr⟩
  | ins C ks ds => obtain ⟨z, dx, xs, h1, l, r⟩ := h; exact ⟨nn z, dx, xs, h1, l, wsat_pre r e pr⟩
  | frz d =>
    refine ⟨fun z => ?_, h.2.up e⟩
    have h1 := h.1
    cases q : Φ a with
    | none => exact h1 q
    | some o => rw [e a o q] at z; cases z
theorem CellAt.up {Φ' : Hp} {c : Cell} {a : Addr} (h : CellAt K κ Φ H a c) (e : Sb Φ Φ') (n : ∀ o, Φ' a = some o → Φ a = some o) : CellAt K κ Φ' H a c := h.upk e (Pre.refl κ) n
/-- a live cell's object is given to the frozen -/
theorem SR.freeze (I : SR K κ Φ H σ s) {k : Nat} {p : Addr} {o : HO} {d : D} (hp : κ[k]? = some p) (hf : Φ p = none) (ho : H p = some o) (hd : Rep K (upd Φ p o) (.ref p) d) :
    Stp κ Φ H κ (upd Φ p o) H ∧ SR K κ (upd Φ p o) H σ { s with st := s.st.set k (.frz d) } := by
  have e : Sb Φ (upd Φ p o) := Sb.new hf
  have st : Stp κ Φ H κ (upd Φ p o) H := by
    refine ⟨e, fun _ _ h _ => h, ⟨[], by simp, by simp⟩, fun a u h => ?_, fun _ _ h => by rw [h]; simp⟩
    by_cases ha : a = p
    · subst ha; exact .inr (.inr (List.mem_of_getElem? hp))
    · rw [upd_ne ha] at h; exact .inl h
  refine ⟨st, ⟨fun a u h => ?_, I.nd, by simpa using I.len, fun j c a hc ha => ?_, I.slen, fun i w hw => ?_⟩⟩
  · by_cases ha : a = p
    · subst ha; rw [upd_same] at h; rw [ho]; exact h
    · rw [upd_ne ha] at h; exact I.sb a u h
  · have hc' : (s.st.set k (.frz d))[j]? = some c := hc
    by_cases hj : j = k
    · subst hj
      rw [hp] at ha; cases ha
      have hk : j < s.st.length := by rw [← I.len]; exact (List.getElem?_eq_some_iff.mp hp).1
      rw [List.getElem?_set_self hk] at hc'
      cases hc'
      exact ⟨by rw [upd_same]; simp, hd⟩
    · rw [List.getElem?_set_ne (Ne.symm hj)] at hc'
      have hap : a ≠ p := fun z => hj (nodup_get I.nd ha (z ▸ hp))
      exact (I.cells j c a hc' ha).up e fun u h => by rw [upd_ne hap] at h; exact h
  · obtain ⟨v, h1, h2⟩ := I.env i w hw
    exact ⟨v, h1, h2.up st⟩
theorem then_ok {α β : Type} {r : R α} {f : α → S → R β} {b : β} {s' : S} (h : r.then f = .ok b s') : ∃ a s1, r = .ok a s1 ∧ f a s1 = .ok b s' := by
  cases r with
  | bad => cases h
  | er e s => cases h
  | ok a s => exact ⟨a, s, rfl, h⟩
theorem then_er {α β : Type} {r : R α} {f : α → S → R β} {e : Err} {s' : S} (h : r.then f = .er e s') : r = .er e s' ∨ ∃ a s1, r = .ok a s1 ∧ f a s1 = .er e s' := by
  cases r with
  | bad => cases h
  | er e s => cases h; exact .inl rfl
  | ok a s => exact .inr ⟨a, s, rfl, h⟩
/-- a kind's object -/
def objOf (c : Cell) (dx : Addr) (xs : List V) : HO := match c with
  | .lst _ => .lst xs | .tup _ => .tup xs | .dk ks _ => .dK (ks.zip xs) | .dt ks _ => .dT (ks.zip xs) | .ins C ks _ => .ins C dx (ks.zip xs) | .frz _ => .lst xs
def objLen (c : Cell) (xs : List V) : Prop := match c with
  | .dk ks _ => ks.length = xs.length | .dt ks _ => ks.length = xs.length | .ins _ ks _ => ks.length = xs.length | _ => True
theorem CellAt.live_obj {c : Cell} {a : Addr} (h : CellAt K κ Φ H a c) (hc : liveC c = true) : Φ a = none ∧ ∃ dx xs, H a = some (objOf c dx xs) ∧ objLen c xs ∧ WsAt K κ Φ xs (kids c) := by
  cases c with
  | lst ds => obtain ⟨z, xs, h1, r⟩ := h; exact ⟨z, a, xs, h1, trivial, r⟩
  | tup ds => obtain ⟨z, xs, h1, r⟩ := h; exact ⟨z, a, xs, h1, trivial, r⟩
  | dk ks ds => obtain ⟨z, xs, h1, l, r⟩ := h; exact ⟨z, a, xs, h1, l, r⟩
  | dt ks ds => obtain ⟨z, xs, h1, l, r⟩ := h; exact ⟨z, a, xs, h1, l, r⟩
  | ins C ks ds => obtain ⟨z, dx, xs, h1, l, r⟩ := h; exact ⟨z, dx, xs, h1, l, r⟩
  | frz d => cases hc
theorem rep_mk {c : Cell} {p dx : Addr} {xs : List V} {ds : List D} (hc : liveC c = true) (hl : objLen c xs) (ho : Φ p = some (objOf c dx xs)) (r : Reps K Φ xs ds) : Rep K Φ (.ref p) (mkD c ds) := by
  cases c with
  | lst _ => exact .lst ho r
  | tup _ => exact .tup ho r
  | dk ks _ => exact .dk ho hl r
  | dt ks _ => exact .dt ho hl r
  | ins C ks _ => exact .ins ho hl r
  | frz d => cases hc
/-- what freezing does: nothing to the heap -/
def FzOk (K : PySem.W.Frag) (κ : List Addr) (H : Hp) (σ : L2.St) (f : W → S → R D) : Prop :=
  ∀ (w : W) (s s' : S) (Φ : Hp) (v : V) (d : D), SR K κ Φ H σ s → WAt K κ Φ v w → f w s = .ok d s' → ∃ Φ', Stp κ Φ H κ Φ' H ∧ SR K κ Φ' H σ s' ∧ Rep K Φ' v d
theorem frzL_ok {f : W → S → R D} (hf : FzOk K κ H σ f) : ∀ {ws : List W} {vs : List V} {Φ : Hp} {s s' : S} {ds : List D}, SR K κ Φ H σ s → WsAt K κ Φ vs ws → frzL f ws s = .ok ds s' → ∃ Φ', Stp κ Φ H κ Φ' H ∧ SR K κ Φ' H σ s' ∧ Reps K Φ' vs ds
  | [], _, Φ, s, s', ds, I, .nil, e => by cases e; exact ⟨Φ, Stp.refl .., I, .nil⟩
  | w :: ws, _, Φ, s, s', ds, I, .cons a r, e => by
    unfold frzL at e
    obtain ⟨d, s1, q, e⟩ := then_ok e
    obtain ⟨ds', s2, q2, e⟩ := then_ok e
    cases e
    obtain ⟨Φ1, st1, I1, h1⟩ := hf _ _ _ _ _ _ I a q
    obtain ⟨Φ2, st2, I2, h2⟩ := frzL_ok hf (ws := ws) I1 (WsUp r st1) q2
    exact ⟨Φ2, st1.trans st2, I2, .cons (h1.up st2.fz) h2⟩
theorem frzN_ok : ∀ n, FzOk K κ H σ (frzN n) := by
  intro n
  induction n with
  | zero =>
    intro w s s' Φ v d I a e
    cases w with
    | fr d' => cases e; exact ⟨Φ, Stp.refl .., I, a⟩
    | loc k => cases e
  | succ n ih =>
    intro w s s' Φ v d I a e
    cases w with
    | fr d' => cases e; exact ⟨Φ, Stp.refl .., I, a⟩
    | loc k =>
      obtain ⟨p, hp, rfl⟩ := a
      obtain ⟨c, hk, hc⟩ := I.cellAt hp
      unfold frzN at e
      rw [hk] at e
      have main : liveC c = true → ((frzL (frzN n) (kids c) s).then fun ds s1 => frzC k c ds s1) = .ok d s' → ∃ Φ', Stp κ Φ H κ Φ' H ∧ SR K κ Φ' H σ s' ∧ Rep K Φ' (.ref p) d := fun hlv e => by
        obtain ⟨z, dx, xs, ho, hl, r⟩ := hc.live_obj hlv
        obtain ⟨ds, s1, q, e⟩ := then_ok e
        obtain ⟨Φ1, st1, I1, r1⟩ := frzL_ok ih I r q
        obtain ⟨c', h1, h2⟩ := I1.cellAt hp
        unfold frzC at e
        rw [h1] at e
        dsimp only at e
        split at e
        · rename_i hl'
          cases e
          obtain ⟨z1, _⟩ := h2.live_obj hl'
          have hr2 : Rep K (upd Φ1 p (objOf c dx xs)) (.ref p) (mkD c ds) := rep_mk hlv hl upd_same (r1.up (Sb.new z1))
          obtain ⟨st, I'⟩ := I1.freeze hp z1 ho hr2
          exact ⟨_, st1.trans st, I', hr2⟩
        · cases e
      cases c with
      | frz d' => cases e; exact ⟨Φ, Stp.refl .., I, hc.2⟩
      | lst _ => exact main rfl e
      | tup _ => exact main rfl e
      | dk _ _ => exact main rfl e
      | dt _ _ => exact main rfl e
      | ins _ _ _ => exact main rfl e
theorem frz1_ok (I : SR K κ Φ H σ s) (a : WAt K κ Φ v w) (e : frz1 w s = .ok d s') : ∃ Φ', Stp κ Φ H κ Φ' H ∧ SR K κ Φ' H σ s' ∧ Rep K Φ' v d := frzN_ok 8 _ _ _ _ _ _ I a e
theorem frzL_er {f : W → S → R D} (hf : ∀ w s e s', f w s ≠ .er e s') : ∀ {ws : List W} {s s' : S} {e : Err}, frzL f ws s ≠ .er e s'
  | [], _, _, _ => fun z => nomatch z
  | w :: ws, s, s', e => fun z => by
    unfold frzL at z
    rcases then_er z with q | ⟨d, s1, q, z⟩
    · exact hf _ _ _ _ q
    · rcases then_er z with q | ⟨ds, s2, q, z⟩
      · exact frzL_er hf q
      · cases z
theorem frzN_er : ∀ (n : Nat) (w : W) (s : S) (e : Err) (s' : S), frzN n w s ≠ .er e s' := by
  intro n
  induction n with
  | zero => intro w s e s' z; cases w <;> cases z
  | succ n ih =>
    intro w s e s' z
    cases w with
    | fr d => cases z
    | loc k =>
      unfold frzN at z
      split at z
      · cases z
      · cases z
      · rcases then_er z with q | ⟨ds, s1, q, z⟩
        · exact frzL_er ih q
        · unfold frzC at z
          split at z
          · split at z <;> cases z
          · cases z
theorem frz1_er {e : Err} : frz1 w s ≠ .er e s' := frzN_er 8 _ _ _ _
def frzs (ws : List W) (s : S) : R (List D) := frzL frz1 ws s
theorem frzs_ok {ws : List W} {vs : List V} {ds : List D} (I : SR K κ Φ H σ s) (a : WsAt K κ Φ vs ws) (e : frzs ws s = .ok ds s') : ∃ Φ', Stp κ Φ H κ Φ' H ∧ SR K κ Φ' H σ s' ∧ Reps K Φ' vs ds := frzL_ok (frzN_ok 8) I a e
theorem frzs_er {ws : List W} {e : Err} : frzs ws s ≠ .er e s' := frzL_er (frzN_er 8)
/-! frozen by reading -/
theorem frz1_fr : frz1 (.fr d) s = .ok d s := rfl
theorem frzs_fr : ∀ (ds : List D) (s : S), frzs (ds.map W.fr) s = .ok ds s
  | [], _ => rfl
  | d :: ds, s => by show ((frz1 (.fr d) s).then fun d s1 => (frzs (ds.map W.fr) s1).then fun ds s2 => R.ok (d :: ds) s2) = _; rw [frz1_fr]; show ((frzs (ds.map W.fr) s).then fun ds s2 => R.ok (d :: ds) s2) = _; rw [frzs_fr ds s]; rfl
theorem frzL_frN (n : Nat) : ∀ (ds : List D) (s : S), frzL (frzN n) (ds.map W.fr) s = .ok ds s
  | [], _ => rfl
  | d :: ds, s => by
    have h1 : frzN n (.fr d) s = .ok d s := by cases n <;> rfl
    rw [List.map_cons, frzL, h1]
    show ((frzL (frzN n) (ds.map W.fr) s).then fun ds s2 => R.ok (d :: ds) s2) = _
    rw [frzL_frN n ds s]; rfl
end
/-! ### expressions -/
section
variable {X : Cx} {Wx : WX}
theorem po_ret {α β : Type} {K : PySem.W.Frag} {G : List Addr → Hp → Hp → Hp → β → α → Prop} {κ : List Addr} {Φ H : Hp} {σ : L2.St} {s : S} {w : α} {v : β} {Q : β → Hp → Prop} (h : Po K Wx G κ Φ H σ (.ok w s) Q)
    (I : SR K κ Φ H σ s) (g : G κ Φ H H v w) : Q v H := h v κ Φ H (Stp.refl ..) I g
def cM (d : D) : S → R W := fun s => .ok (.fr d) s
theorem ze_const {e : Expr} {v : V} {d : D} (h : PE X e (tC v)) (r : ∀ Φ, Rep X.K Φ v d) : ZE X Wx e (cM d) :=
  PE.imp h fun σ H Q ⟨κ, Φ, s, I, q⟩ => po_ret q I (r Φ)
theorem ze_int {i : Int} {j pos} : ZE X Wx (.Constant (.int i) j pos) (cM (.int i)) := ze_const pe_int fun _ => .int i
theorem ze_bl {b : Bool} {j pos} : ZE X Wx (.Constant (.bool b) j pos) (cM (.bl b)) := ze_const pe_bl fun _ => .bl b
theorem ze_non {j pos} : ZE X Wx (.Constant .none j pos) (cM .non) := ze_const pe_non fun _ => .non
theorem ze_str {x : Str} {j pos} : ZE X Wx (.Constant (.str x) j pos) (cM (.str x)) := ze_const pe_str fun _ => .str x
/-- a module's constant -/
theorem ze_gint {x : Str} {i : Int} {u : Value} {pos : Pos} (hg : Gl X x) (hm : X.mg x = some u) (r : RelV (.int i) u) (hd : (x == ("__debug__" : Str)) = false := by decide) : ZE X Wx (.Name x pos) (cM (.int i)) := ze_const (pe_glob hg hm r hd) fun _ => .int i
theorem ze_gstr {x : Str} {z : Str} {u : Value} {pos : Pos} (hg : Gl X x) (hm : X.mg x = some u) (r : RelV (.str z) u) (hd : (x == ("__debug__" : Str)) = false := by decide) : ZE X Wx (.Name x pos) (cM (.str z)) := ze_const (pe_glob hg hm r hd) fun _ => .str z
def vM (i : Nat) : S → R W := fun s => match s.env[i]? with | some (some w) => .ok w s | _ => .bad
theorem ze_var (i : Nat) {x : Str} {pos : Pos} (hN : X.N[i]? = some x := by rfl) (hv : Vis X.env.scope x := by first | exact Or.inl rfl | exact Or.inr (Or.inl rfl) | exact Or.inr (Or.inr rfl)) (hd : (x == ("__debug__" : Str)) = false := by decide)
    (hcd : (x == ("__classdict__" : Str)) = false := by decide) : ZE X Wx (.Name x pos) (vM i) :=
  PE.imp (pe_var hN hv hd hcd) fun σ H Q ⟨κ, Φ, s, I, q⟩ => by
    unfold vM at q
    cases e : s.env[i]? with
    | none => rw [e] at q; exact q.elim
    | some o =>
      cases o with
      | none => rw [e] at q; exact q.elim
      | some w =>
        rw [e] at q
        obtain ⟨v, h1, h2⟩ := I.env i w e
        exact ⟨v, h1, po_ret q I h2⟩
/-! two operands, an operation on what is seen -/
def op2 (f : D → D → Option D) (s : S) (a b : W) : R W :=
  match view s a, view s b with
  | some x, some y => match f x y with
    | some d => .ok (.fr d) s
    | none => .bad
  | _, _ => .bad
/-- the operation f on values is g on data (g's results are scalars) -/
def ZO (X : Cx) (f : Value → Value → Sem Value) (g : D → D → Option D) : Prop :=
  ∃ r : R2, OpR X f r ∧ ∀ (Φ H : Hp) (x y : V) (a b d : D) (Q : VK), Sb Φ H → Vw X.K Φ H x a → Vw X.K Φ H y b → g a b = some d → (∀ v, Rep X.K Φ v d → Q v H) → r x y H Q
def bM (ma mb : S → R W) (g : S → W → W → R W) : S → R W := fun s => (ma s).then fun a s1 => (mb s1).then fun b s2 => g s2 a b
theorem op2_cases {g : D → D → Option D} {s : S} {a b : W} {P : R W → Prop} (h : P (op2 g s a b)) (hb : P .bad → False) : ∃ x y d, view s a = some x ∧ view s b = some y ∧ g x y = some d ∧ P (.ok (.fr d) s) := by
  unfold op2 at h
  cases e1 : view s a with
  | none => rw [e1] at h; exact (hb h).elim
  | some x =>
    cases e2 : view s b with
    | none => rw [e1, e2] at h; exact (hb h).elim
    | some y =>
      rw [e1, e2] at h
      dsimp only at h
      cases e3 : g x y with
      | none => rw [e3] at h; exact (hb h).elim
      | some d => rw [e3] at h; exact ⟨x, y, d, rfl, rfl, e3, h⟩
theorem zo_read {f : Value → Value → Sem Value} {g : D → D → Option D} {r : R2} {ta tb : TE}
    (hr : ∀ (Φ H : Hp) (x y : V) (a b d : D) (Q : VK), Sb Φ H → Vw X.K Φ H x a → Vw X.K Φ H y b → g a b = some d → (∀ v, Rep X.K Φ v d → Q v H) → r x y H Q)
    {ma mb : S → R W} {σ : L2.St} {H : Hp} {Q : VK} (h : tG X.K Wx (GW X.K) (bM ma mb (op2 g)) σ H Q) : tOp r (tG X.K Wx (GW X.K) ma) (tG X.K Wx (GW X.K) mb) σ H Q := by
  obtain ⟨κ, Φ, s, I, q⟩ := h
  refine ⟨κ, Φ, s, I, (Po.seqW (f := fun a s1 => (mb s1).then fun b s2 => op2 g s2 a b) q).weak fun v H1 h1 => ?_⟩
  obtain ⟨κ1, Φ1, s1, a, I1, st1, g1, q1⟩ := h1
  refine ⟨κ1, Φ1, s1, I1, (Po.seqW q1).weak fun u H2 h2 => ?_⟩
  obtain ⟨κ2, Φ2, s2, b, I2, st2, g2, q2⟩ := h2
  obtain ⟨x, y, d, e1, e2, e3, q3⟩ := op2_cases (P := fun r => Po X.K Wx (GW X.K) κ2 Φ2 H2 σ r Q) q2 id
  exact hr Φ2 H2 v u x y d Q I2.sb (I2.vw (WAt.up g1 st2) e1) (I2.vw g2 e2) e3 fun z hz => po_ret q3 I2 hz
theorem ze_bin {op : Operator} {g : D → D → Option D} {a b : Expr} {ma mb : S → R W} {pos : Pos} (ho : ZO X (binaryOp op) g) (ha : ZE X Wx a ma) (hb : ZE X Wx b mb) : ZE X Wx (.BinOp a op b pos) (bM ma mb (op2 g)) := by
  obtain ⟨r, o, hr⟩ := ho
  exact PE.imp (pe_op o ha hb) fun σ H Q h => zo_read (f := binaryOp op) (ta := fun _ _ _ => True) (tb := fun _ _ _ => True) hr h
theorem ze_cmp {op : CmpOp} {g : D → D → Option D} {a b : Expr} {ma mb : S → R W} {pos : Pos} (ho : ZO X (compareOp op) g) (ha : ZE X Wx a ma) (hb : ZE X Wx b mb) (hm : behindInMarks op b = false) : ZE X Wx (.Compare a [op] [b] pos) (bM ma mb (op2 g)) := by
  obtain ⟨r, o, hr⟩ := ho
  exact PE.imp (pe_cmpR o ha hb hm) fun σ H Q h => zo_read (f := compareOp op) (ta := fun _ _ _ => True) (tb := fun _ _ _ => True) hr h
/-- a value that is True or False, as a test's outcome -/
def asB (r : R W) : R Bool := r.then fun w s => match w with | .fr (.bl b) => .ok b s | _ => .bad
theorem po_asB {K : PySem.W.Frag} {κ : List Addr} {Φ H : Hp} {σ : L2.St} {r : R W} {Q : Bool → Hp → Prop} (h : Po K Wx GB κ Φ H σ (asB r) Q) : Po K Wx (GW K) κ Φ H σ r (fun v H1 => ∃ k, v = .bl k ∧ Q k H1) := by
  cases r with
  | bad => exact h
  | er e s => exact h
  | ok w s =>
    intro v κ' Φ' H' st I g
    cases w with
    | loc k => exact False.elim h
    | fr d =>
      cases d with
      | bl b => cases g; exact ⟨b, rfl, h b κ' Φ' H' st I rfl⟩
      | _ => exact False.elim h
theorem zt_val {e : Expr} {m : S → R W} (h : ZE X Wx e m) (he : ∀ whole, isTrue e X.env whole = (do let v ← whole; standAt e.pos; holding [v] (truthy v)) := by intro _; rfl) : ZT X Wx e (fun s => asB (m s)) :=
  PT.imp (pt_val h he) fun σ H Q ⟨κ, Φ, s, I, q⟩ => ⟨κ, Φ, s, I, po_asB q⟩
theorem zt_cmp {op : CmpOp} {g : D → D → Option D} {a b : Expr} {ma mb : S → R W} {pos : Pos} (ho : ZO X (compareOp op) g) (ha : ZE X Wx a ma) (hb : ZE X Wx b mb) (hm : behindInMarks op b = false) : ZT X Wx (.Compare a [op] [b] pos) (fun s => asB (bM ma mb (op2 g) s)) := by
  obtain ⟨r, o, hr⟩ := ho
  refine PT.imp (pt_cmpR o ha hb hm) fun σ H Q ⟨κ, Φ, s, I, q⟩ => ?_
  exact zo_read (f := compareOp op) (ta := fun _ _ _ => True) (tb := fun _ _ _ => True) hr ⟨κ, Φ, s, I, po_asB q⟩
end
end Z
namespace Z
open PySem PySem.Spec PyProof.Rows L2
/-! ### operators -/
section
variable {X : Cx} {K : PySem.W.Frag} {Φ H : Hp}
theorem vw_int {v : V} {i : Int} (h : Vw K Φ H v (.int i)) : v = .int i := by cases h; rfl
theorem vw_str {v : V} {i : Str} (h : Vw K Φ H v (.str i)) : v = .str i := by cases h; rfl
theorem vw_bl {v : V} {i : Bool} (h : Vw K Φ H v (.bl i)) : v = .bl i := by cases h; rfl
theorem vw_non {v : V} (h : Vw K Φ H v .non) : v = .non := by cases h; rfl
def iop (C : Int → Int → Bool) (f : Int → Int → D) : D → D → Option D
  | .int i, .int j => if C i j = true then some (f i j) else none
  | _, _ => none
theorem iop_some {C : Int → Int → Bool} {f : Int → Int → D} {a b d : D} (h : iop C f a b = some d) : ∃ i j, a = .int i ∧ b = .int j ∧ C i j = true ∧ d = f i j := by
  unfold iop at h
  split at h
  · split at h
    · rename_i i j hc; exact ⟨_, _, rfl, rfl, hc, (Option.some.inj h).symm⟩
    · cases h
  · cases h
theorem zo_iop {f : Value → Value → Sem Value} {C : Int → Int → Bool} {C' : Int → Int → Prop} {g : Int → Int → D} {G : Int → Int → V} (o : OpR X f (rI C' G)) (hc : ∀ i j, C i j = true → C' i j) (hg : ∀ Φ i j, Rep X.K Φ (G i j) (g i j)) : ZO X f (iop C g) :=
  ⟨_, o, fun Φ H x y a b d Q _ hx hy e k => by
    obtain ⟨i, j, rfl, rfl, c, rfl⟩ := iop_some e
    rw [vw_int hx, vw_int hy]
    exact ⟨i, j, rfl, rfl, hc i j c, k _ (hg Φ i j)⟩⟩
theorem zo_iop0 {f : Value → Value → Sem Value} {g : Int → Int → D} {G : Int → Int → V} (o : OpR X f (rI0 G)) (hg : ∀ Φ i j, Rep X.K Φ (G i j) (g i j)) : ZO X f (iop (fun _ _ => true) g) :=
  ⟨_, o, fun Φ H x y a b d Q _ hx hy e k => by
    obtain ⟨i, j, rfl, rfl, c, rfl⟩ := iop_some e
    rw [vw_int hx, vw_int hy]
    exact ⟨i, j, rfl, rfl, k _ (hg Φ i j)⟩⟩
def mulC (i j : Int) : Bool := (decide (-(2 ^ 64) < i) && decide (i < 2 ^ 64)) || (decide (-(2 ^ 64) < j) && decide (j < 2 ^ 64))
def divC (i j : Int) : Bool := decide (0 < j) && decide (j < 1073741824)
def powC (i j : Int) : Bool := decide (0 ≤ j) && decide (j ≤ 1000000) && decide (i.natAbs < 2 ^ 64)
def tru0 : Int → Int → Bool := fun _ _ => true
abbrev subD := iop (fun _ _ => true) fun i j => .int (i - j)
abbrev mulD := iop mulC fun i j => .int (i * j)
abbrev fdivD := iop divC fun i j => .int (i / j)
abbrev modD := iop (fun _ j => decide (0 < j)) fun i j => .int (i % j)
abbrev powD := iop powC fun i j => .int (i ^ j.toNat)
abbrev ltD := iop (fun _ _ => true) fun i j => .bl (decide (i < j))
abbrev leD := iop (fun _ _ => true) fun i j => .bl (decide (i ≤ j))
abbrev gtD := iop (fun _ _ => true) fun i j => .bl (decide (j < i))
abbrev geD := iop (fun _ _ => true) fun i j => .bl (decide (j ≤ i))
def addD : D → D → Option D
  | .int i, .int j => some (.int (i + j))
  | .str a, .str b => if a.length + b.length ≤ sizeLine then some (.str (a ++ b)) else none
  | _, _ => none
theorem zo_sub : ZO X (binaryOp .Sub) subD := zo_iop0 op_sub fun _ _ _ => .int _
theorem zo_mul : ZO X (binaryOp .Mult) mulD := zo_iop op_mul (fun i j h => by
  unfold mulC at h
  simp only [Bool.or_eq_true, Bool.and_eq_true, decide_eq_true_eq] at h
  exact h) fun _ _ _ => .int _
theorem zo_fdiv : ZO X (binaryOp .FloorDiv) fdivD := zo_iop op_fdiv (fun i j h => by
  unfold divC at h
  simp only [Bool.and_eq_true, decide_eq_true_eq] at h
  exact h) fun _ _ _ => .int _
theorem zo_mod : ZO X (binaryOp .Mod) modD := zo_iop op_mod (fun i j h => by simpa using h) fun _ _ _ => .int _
theorem zo_pow : ZO X (binaryOp .Pow) powD := zo_iop op_pow (fun i j h => by
  unfold powC at h
  simp only [Bool.and_eq_true, decide_eq_true_eq] at h
  exact ⟨h.1.1, h.1.2, h.2⟩) fun _ _ _ => .int _
theorem zo_lt : ZO X (compareOp .Lt) ltD := zo_iop0 op_lt fun _ _ _ => .bl _
theorem zo_le : ZO X (compareOp .LtE) leD := zo_iop0 op_le fun _ _ _ => .bl _
theorem zo_gt : ZO X (compareOp .Gt) gtD := zo_iop0 op_gt fun _ _ _ => .bl _
theorem zo_ge : ZO X (compareOp .GtE) geD := zo_iop0 op_ge fun _ _ _ => .bl _
theorem zo_add : ZO X (binaryOp .Add) addD := ⟨_, op_add.or op_add_str, fun Φ H x y a b d Q _ hx hy e k => by
  unfold addD at e
  split at e
  · cases e
    rw [vw_int hx, vw_int hy]
    exact .inl ⟨_, _, rfl, rfl, k _ (.int _)⟩
  · split at e
    · rename_i h
      cases e
      rw [vw_str hx, vw_str hy]
      exact .inr ⟨_, _, rfl, rfl, h, k _ (.str _)⟩
    · cases e
  · cases e⟩
/-! equality -/
mutual
def D.py : D → Option PyData
  | .non => some .none
  | .bl b => some (.bool b)
  | .int i => some (.int i)
  | .str s => some (.str s)
  | .lst ds => (D.pys ds).map .list
  | .tup ds => (D.pys ds).map .tuple
  | .scr _ => none
  | .dk _ _ => none
  | .dt _ _ => none
  | .ins _ _ _ => none
def D.pys : List D → Option (List PyData)
  | [] => some []
  | d :: ds => match D.py d, D.pys ds with
    | some p, some ps => some (p :: ps)
    | _, _ => none
end
mutual
theorem Rep.dp (e : Sb Φ H) : ∀ (d : D) (v : V) (p : PyData), Rep K Φ v d → d.py = some p → Dp K H v p
  | .non, _, _, .non, h => by rw [D.py] at h; cases h; exact .non
  | .bl b, _, _, .bl _, h => by rw [D.py] at h; cases h; exact .bl b
  | .int i, _, _, .int _, h => by rw [D.py] at h; cases h; exact .int i
  | .str s, _, _, .str _, h => by rw [D.py] at h; cases h; exact .str s
  | .lst ds, _, p, .lst h1 r, h => by
    rw [D.py] at h
    cases q : D.pys ds with
    | none => rw [q] at h; cases h
    | some ps => rw [q] at h; cases h; exact .lst (.of (e _ _ h1)) (Reps.dp e ds _ ps r q)
  | .tup ds, _, p, .tup h1 r, h => by
    rw [D.py] at h
    cases q : D.pys ds with
    | none => rw [q] at h; cases h
    | some ps => rw [q] at h; cases h; exact .tup (.of (e _ _ h1)) (Reps.dp e ds _ ps r q)
  | .scr _, _, _, _, h => by rw [D.py] at h; cases h
  | .dk _ _, _, _, _, h => by rw [D.py] at h; cases h
  | .dt _ _, _, _, _, h => by rw [D.py] at h; cases h
  | .ins _ _ _, _, _, _, h => by rw [D.py] at h; cases h
theorem Reps.dp (e : Sb Φ H) : ∀ (ds : List D) (vs : List V) (ps : List PyData), Reps K Φ vs ds → D.pys ds = some ps → DpAll K H vs ps
  | [], _, _, .nil, h => by rw [D.pys] at h; cases h; exact .nil
  | d :: ds, _, _, .cons h1 r, h => by
    rw [D.pys] at h
    cases q1 : D.py d with
    | none => rw [q1] at h; cases h
    | some p =>
      cases q2 : D.pys ds with
      | none => rw [q1, q2] at h; cases h
      | some ps => rw [q1, q2] at h; cases h; exact .cons (Rep.dp e d _ p h1 q1) (Reps.dp e ds _ ps r q2)
end
theorem Vw.dp (e : Sb Φ H) {v : V} {d : D} {p : PyData} (h : Vw K Φ H v d) (q : d.py = some p) : Dp K H v p := by
  cases d with
  | lst ds =>
    obtain ⟨a, xs, rfl, h1, r⟩ := h
    rw [D.py] at q
    cases q2 : D.pys ds with
    | none => rw [q2] at q; cases q
    | some ps => rw [q2] at q; cases q; exact .lst (.of h1) (Reps.dp e ds _ ps r q2)
  | tup ds =>
    obtain ⟨a, xs, rfl, h1, r⟩ := h
    rw [D.py] at q
    cases q2 : D.pys ds with
    | none => rw [q2] at q; cases q
    | some ps => rw [q2] at q; cases q; exact .tup (.of h1) (Reps.dp e ds _ ps r q2)
  | dk ks ds => rw [D.py] at q; cases q
  | dt ks ds => rw [D.py] at q; cases q
  | non => exact Rep.dp e _ _ _ h q
  | bl b => exact Rep.dp e _ _ _ h q
  | int i => exact Rep.dp e _ _ _ h q
  | str s => exact Rep.dp e _ _ _ h q
  | scr ns => exact Rep.dp e _ _ _ h q
  | ins C ks ds => exact Rep.dp e _ _ _ h q
def eqB (a b : D) : Option Bool := match a.py, b.py with
  | some p, some q => if SeqAt.shaped p = true ∧ SeqAt.shaped q = true then some (PyData.eqv p q) else none
  | _, _ => none
def eqD (a b : D) : Option D := (eqB a b).map .bl
def neD (a b : D) : Option D := (eqB a b).map fun c => .bl (!c)
theorem eqB_some {a b : D} {c : Bool} (h : eqB a b = some c) : ∃ p q, a.py = some p ∧ b.py = some q ∧ SeqAt.shaped p = true ∧ SeqAt.shaped q = true ∧ c = PyData.eqv p q := by
  unfold eqB at h
  cases h1 : a.py with
  | none => rw [h1] at h; cases h
  | some p =>
    cases h2 : b.py with
    | none => rw [h1, h2] at h; cases h
    | some q =>
      rw [h1, h2] at h
      dsimp only at h
      split at h
      · rename_i hs; exact ⟨p, q, rfl, rfl, hs.1, hs.2, (Option.some.inj h).symm⟩
      · cases h
theorem zo_eq (hu : X.A.units + 64 < cLine) : ZO X (compareOp .Eq) eqD := ⟨_, op_eqD hu, fun Φ H x y a b d Q sb hx hy e k => by
  unfold eqD at e
  cases hq : eqB a b with
  | none => rw [hq] at e; cases e
  | some c =>
    rw [hq] at e; cases e
    obtain ⟨p, q, e1, e2, s1, s2, rfl⟩ := eqB_some hq
    exact ⟨p, q, hx.dp sb e1, hy.dp sb e2, s1, s2, k _ (.bl _)⟩⟩
theorem zo_ne (hu : X.A.units + 64 < cLine) : ZO X (compareOp .NotEq) neD := ⟨_, op_neD hu, fun Φ H x y a b d Q sb hx hy e k => by
  unfold neD at e
  cases hq : eqB a b with
  | none => rw [hq] at e; cases e
  | some c =>
    rw [hq] at e; cases e
    obtain ⟨p, q, e1, e2, s1, s2, rfl⟩ := eqB_some hq
    exact ⟨p, q, hx.dp sb e1, hy.dp sb e2, s1, s2, k _ (.bl _)⟩⟩
end
/-! deep readings -/
def deepL (f : W → Option D) : List W → Option (List D)
  | [] => some []
  | w :: ws => match f w, deepL f ws with
    | some d, some ds => some (d :: ds)
    | _, _ => none
def deepN (s : S) : Nat → W → Option D
  | _, .fr d => some d
  | 0, .loc _ => none
  | n + 1, .loc k => match s.st[k]? with
    | some (.lst ws) => (deepL (deepN s n) ws).map .lst
    | some (.tup ws) => (deepL (deepN s n) ws).map .tup
    | some (.frz d) => some d
    | _ => none
abbrev deep (s : S) (w : W) : Option D := deepN s 8 w
/-- what stands at a value, as far as it is data -/
def DpD (K : PySem.W.Frag) (H : Hp) (v : V) (d : D) : Prop := ∀ p, d.py = some p → Dp K H v p
def DpDs (K : PySem.W.Frag) (H : Hp) (vs : List V) (ds : List D) : Prop := ∀ ps, D.pys ds = some ps → DpAll K H vs ps
section
variable {K : PySem.W.Frag} {κ : List Addr} {Φ H : Hp} {σ : L2.St} {s : S}
theorem deepL_ok {f : W → Option D} (hf : ∀ v w d, WAt K κ Φ v w → f w = some d → DpD K H v d) : ∀ {vs : List V} {ws : List W} {ds : List D}, WsAt K κ Φ vs ws → deepL f ws = some ds → DpDs K H vs ds
  | _, _, _, .nil, e => by
    cases e
    intro ps h
    rw [D.pys] at h; cases h
    exact .nil
  | _, w :: ws, _, .cons a r, e => by
    rw [deepL] at e
    cases q1 : f w with
    | none => rw [q1] at e; cases e
    | some d =>
      cases q2 : deepL f ws with
      | none => rw [q1, q2] at e; cases e
      | some ds =>
        rw [q1, q2] at e
        cases e
        intro ps h
        rw [D.pys] at h
        cases q3 : D.py d with
        | none => rw [q3] at h; cases h
        | some p =>
          cases q4 : D.pys ds with
          | none => rw [q3, q4] at h; cases h
          | some ps => rw [q3, q4] at h; cases h; exact .cons (hf _ _ _ a q1 p q3) (deepL_ok hf r q2 ps q4)
theorem deepN_ok (I : SR K κ Φ H σ s) : ∀ (n : Nat) (v : V) (w : W) (d : D), WAt K κ Φ v w → deepN s n w = some d → DpD K H v d := by
  intro n
  induction n with
  | zero =>
    intro v w d a e
    cases w with
    | fr d' => cases e; exact fun p h => Rep.dp I.sb _ _ _ a h
    | loc k => cases e
  | succ n ih =>
    intro v w d a e
    cases w with
    | fr d' => cases e; exact fun p h => Rep.dp I.sb _ _ _ a h
    | loc k =>
      obtain ⟨p, hp, rfl⟩ := a
      obtain ⟨c, hk, hc⟩ := I.cellAt hp
      unfold deepN at e
      rw [hk] at e
      cases c with
      | lst ws =>
        obtain ⟨ds, q, rfl⟩ := Option.map_eq_some_iff.mp e
        obtain ⟨_, xs, h, r⟩ := hc
        intro y hy
        rw [D.py] at hy
        obtain ⟨ps, hp2, rfl⟩ := Option.map_eq_some_iff.mp hy
        exact .lst (.of h) (deepL_ok ih r q ps hp2)
      | tup ws =>
        obtain ⟨ds, q, rfl⟩ := Option.map_eq_some_iff.mp e
        obtain ⟨_, xs, h, r⟩ := hc
        intro y hy
        rw [D.py] at hy
        obtain ⟨ps, hp2, rfl⟩ := Option.map_eq_some_iff.mp hy
        exact .tup (.of h) (deepL_ok ih r q ps hp2)
      | frz d' => cases e; exact fun y h => Rep.dp I.sb _ _ _ hc.2 h
      | dk ks ws => cases e
      | dt ks ws => cases e
      | ins C ks ws => cases e
theorem deep_ok (I : SR K κ Φ H σ s) {v : V} {w : W} {d : D} (a : WAt K κ Φ v w) (e : deep s w = some d) : DpD K H v d := deepN_ok I 8 v w d a e
end
/-! ### None, tests -/
section
variable {X : Cx} {Wx : WX}
def isN : W → Bool
  | .fr .non => true
  | _ => false
theorem isN_ok {K : PySem.W.Frag} {κ : List Addr} {Φ : Hp} {v : V} {w : W} (h : WAt K κ Φ v w) : decide (v = .non) = isN w := by
  cases w with
  | fr d => have h : Rep K Φ v d := h; cases h <;> rfl
  | loc k => obtain ⟨a, _, rfl⟩ := h; rfl
def mN (neg : Bool) (m : S → R W) : S → R W := fun s => (m s).then fun w s1 => .ok (.fr (.bl (if neg then !isN w else isN w))) s1
theorem ze_isN {a : Expr} {m : S → R W} {j pos pos'} (ha : ZE X Wx a m) : ZE X Wx (.Compare a [.Is] [.Constant .none j pos'] pos) (mN false m) :=
  PE.imp (pe_cmpR op_isN ha pe_non (nomark _)) fun σ H Q ⟨κ, Φ, s, I, q⟩ => by
    refine ⟨κ, Φ, s, I, (Po.seqW (f := fun w s1 => R.ok (.fr (.bl (isN w))) s1) q).weak fun v H1 h1 => ?_⟩
    obtain ⟨κ1, Φ1, s1, w, I1, st, g, q1⟩ := h1
    exact ⟨rfl, po_ret q1 I1 (by rw [isN_ok g]; exact Rep.bl _)⟩
theorem ze_notN {a : Expr} {m : S → R W} {j pos pos'} (ha : ZE X Wx a m) : ZE X Wx (.Compare a [.IsNot] [.Constant .none j pos'] pos) (mN true m) :=
  PE.imp (pe_cmpR op_notN ha pe_non (nomark _)) fun σ H Q ⟨κ, Φ, s, I, q⟩ => by
    refine ⟨κ, Φ, s, I, (Po.seqW (f := fun w s1 => R.ok (.fr (.bl (!isN w))) s1) q).weak fun v H1 h1 => ?_⟩
    obtain ⟨κ1, Φ1, s1, w, I1, st, g, q1⟩ := h1
    exact ⟨rfl, po_ret q1 I1 (by rw [isN_ok g]; exact Rep.bl _)⟩
def mNt (neg : Bool) (m : S → R W) : S → R Bool := fun s => (m s).then fun w s1 => .ok (if neg then !isN w else isN w) s1
theorem zt_isN {a : Expr} {m : S → R W} {j pos pos'} (ha : ZE X Wx a m) : ZT X Wx (.Compare a [.Is] [.Constant .none j pos'] pos) (mNt false m) :=
  PT.imp (pt_cmpR op_isN ha pe_non (nomark _)) fun σ H Q ⟨κ, Φ, s, I, q⟩ => by
    refine ⟨κ, Φ, s, I, (Po.seqB (f := fun w s1 => R.ok (isN w) s1) q).weak fun v H1 h1 => ?_⟩
    obtain ⟨κ1, Φ1, s1, w, I1, st, g, q1⟩ := h1
    exact ⟨rfl, _, rfl, po_ret q1 I1 (isN_ok g)⟩
theorem zt_notN {a : Expr} {m : S → R W} {j pos pos'} (ha : ZE X Wx a m) : ZT X Wx (.Compare a [.IsNot] [.Constant .none j pos'] pos) (mNt true m) :=
  PT.imp (pt_cmpR op_notN ha pe_non (nomark _)) fun σ H Q ⟨κ, Φ, s, I, q⟩ => by
    refine ⟨κ, Φ, s, I, (Po.seqB (f := fun w s1 => R.ok (!isN w) s1) q).weak fun v H1 h1 => ?_⟩
    obtain ⟨κ1, Φ1, s1, w, I1, st, g, q1⟩ := h1
    exact ⟨rfl, _, rfl, po_ret q1 I1 (by rw [isN_ok g]; rfl)⟩
def ZP (X : Cx) (Wx : WX) (e : Expr) (m : S → R Bool) : Prop := PW X e (tG X.K Wx GB m)
theorem PW.imp {X : Cx} {e : Expr} {t t' : TT} (h : PW X e t) (k : ∀ σ H Q, t' σ H Q → t σ H Q) : PW X e t' := ⟨fun wh pins s σ H Q I q => h.run wh pins s σ H Q I (k σ H Q q)⟩
def andM (ma mb : S → R Bool) : S → R Bool := fun s => (ma s).then fun b s1 => if b = true then mb s1 else .ok false s1
def orM (ma mb : S → R Bool) : S → R Bool := fun s => (ma s).then fun b s1 => if b = true then .ok true s1 else mb s1
def notM (ma : S → R Bool) : S → R Bool := fun s => (ma s).then fun b s1 => .ok (!b) s1
variable {a b c e : Expr} {rest : List Expr} {ma mb mc : S → R Bool} {pos : Pos}
theorem zw_and1 (ha : ZT X Wx a ma) : ZP X Wx (.BoolOp .And [a] pos) ma := pw_and1 ha
theorem zw_or1 (ha : ZT X Wx a ma) : ZP X Wx (.BoolOp .Or [a] pos) ma := pw_or1 ha
theorem zw_and (ha : ZT X Wx a ma) (hb : ZP X Wx (.BoolOp .And (b :: rest) pos) mb) : ZP X Wx (.BoolOp .And (a :: b :: rest) pos) (andM ma mb) :=
  PW.imp (pw_and ha hb) fun σ H Q ⟨κ, Φ, s, I, q⟩ => by
    refine ⟨κ, Φ, s, I, (Po.seqB (f := fun b s1 => if b = true then mb s1 else .ok false s1) q).weak fun v H1 h1 => ?_⟩
    obtain ⟨κ1, Φ1, s1, w, I1, st, g, q1⟩ := h1
    obtain rfl : v = w := g
    cases v with
    | true => exact ⟨κ1, Φ1, s1, I1, q1⟩
    | false => exact po_ret (w := false) (v := false) q1 I1 rfl
theorem zw_or (ha : ZT X Wx a ma) (hb : ZP X Wx (.BoolOp .Or (b :: rest) pos) mb) : ZP X Wx (.BoolOp .Or (a :: b :: rest) pos) (orM ma mb) :=
  PW.imp (pw_or ha hb) fun σ H Q ⟨κ, Φ, s, I, q⟩ => by
    refine ⟨κ, Φ, s, I, (Po.seqB (f := fun b s1 => if b = true then .ok true s1 else mb s1) q).weak fun v H1 h1 => ?_⟩
    obtain ⟨κ1, Φ1, s1, w, I1, st, g, q1⟩ := h1
    obtain rfl : v = w := g
    cases v with
    | false => exact ⟨κ1, Φ1, s1, I1, q1⟩
    | true => exact po_ret (w := true) (v := true) q1 I1 rfl
theorem zt_bo (h : ZP X Wx e ma) : ZT X Wx e ma := PW.pt h
theorem zt_not (ha : ZT X Wx a ma) : ZT X Wx (.UnaryOp .Not a pos) (notM ma) :=
  PT.imp (pt_not ha) fun σ H Q ⟨κ, Φ, s, I, q⟩ => by
    refine ⟨κ, Φ, s, I, (Po.seqB (f := fun b s1 => R.ok (!b) s1) q).weak fun v H1 h1 => ?_⟩
    obtain ⟨κ1, Φ1, s1, w, I1, st, g, q1⟩ := h1
    obtain rfl : v = w := g
    exact po_ret q1 I1 rfl
variable {na nb nc : S → R W}
def bW (m : S → R Bool) : S → R W := fun s => (m s).then fun b s1 => .ok (.fr (.bl b)) s1
def andV (ma mb : S → R W) : S → R W := fun s => (asB (ma s)).then fun b s1 => if b = true then mb s1 else .ok (.fr (.bl false)) s1
def orV (ma mb : S → R W) : S → R W := fun s => (asB (ma s)).then fun b s1 => if b = true then .ok (.fr (.bl true)) s1 else mb s1
def notV (ma : S → R W) : S → R W := fun s => (asB (ma s)).then fun b s1 => .ok (.fr (.bl (!b))) s1
theorem po_asBv {K : PySem.W.Frag} {κ : List Addr} {Φ H : Hp} {σ : L2.St} {r : R W} {f : Bool → S → R W} {Q : VK} (h : Po K Wx (GW K) κ Φ H σ ((asB r).then f) Q) :
    Po K Wx (GW K) κ Φ H σ r (fun v H1 => ∃ κ1 Φ1 s1 k, SR K κ1 Φ1 H1 σ s1 ∧ Stp κ Φ H κ1 Φ1 H1 ∧ v = .bl k ∧ Po K Wx (GW K) κ1 Φ1 H1 σ (f k s1) Q) := by
  have h2 := po_asB (Po.seqW (G := GB) h)
  exact h2.weak fun v H1 ⟨k, e, κ1, Φ1, s1, w, I1, st, g, q⟩ => ⟨κ1, Φ1, s1, k, I1, st, e, by rw [show k = w from g]; exact q⟩
theorem ze_and1 {op : BoolOp} (ha : ZE X Wx a na) : ZE X Wx (.BoolOp op [a] pos) na := pe_one ha
theorem ze_and (ha : ZE X Wx a na) (hb : ZE X Wx (.BoolOp .And (b :: rest) pos) nb) : ZE X Wx (.BoolOp .And (a :: b :: rest) pos) (andV na nb) :=
  PE.imp (pe_and ha hb) fun σ H Q ⟨κ, Φ, s, I, q⟩ => by
    refine ⟨κ, Φ, s, I, (po_asBv q).weak fun v H1 h1 => ?_⟩
    obtain ⟨κ1, Φ1, s1, k, I1, _, e, q1⟩ := h1
    refine ⟨k, e, ?_⟩
    cases k with
    | true => exact ⟨κ1, Φ1, s1, I1, q1⟩
    | false => exact po_ret (w := W.fr (.bl false)) q1 I1 (Rep.bl false)
theorem ze_or (ha : ZE X Wx a na) (hb : ZE X Wx (.BoolOp .Or (b :: rest) pos) nb) : ZE X Wx (.BoolOp .Or (a :: b :: rest) pos) (orV na nb) :=
  PE.imp (pe_or ha hb) fun σ H Q ⟨κ, Φ, s, I, q⟩ => by
    refine ⟨κ, Φ, s, I, (po_asBv q).weak fun v H1 h1 => ?_⟩
    obtain ⟨κ1, Φ1, s1, k, I1, _, e, q1⟩ := h1
    refine ⟨k, e, ?_⟩
    cases k with
    | false => exact ⟨κ1, Φ1, s1, I1, q1⟩
    | true => exact po_ret (w := W.fr (.bl true)) q1 I1 (Rep.bl true)
theorem ze_not (ha : ZE X Wx a na) : ZE X Wx (.UnaryOp .Not a pos) (notV na) :=
  PE.imp (pe_not ha) fun σ H Q ⟨κ, Φ, s, I, q⟩ => by
    refine ⟨κ, Φ, s, I, (po_asBv (f := fun b s1 => R.ok (.fr (.bl (!b))) s1) q).weak fun v H1 h1 => ?_⟩
    obtain ⟨κ1, Φ1, s1, k, I1, _, e, q1⟩ := h1
    exact ⟨k, e, po_ret q1 I1 (Rep.bl _)⟩
def ifM {α : Type} (mc : S → R Bool) (ma mb : S → R α) : S → R α := fun s => (mc s).then fun b s1 => if b = true then ma s1 else mb s1
theorem ze_if (hc : ZT X Wx c mc) (ha : ZE X Wx a na) (hb : ZE X Wx b nb) : ZE X Wx (.IfExp c a b pos) (ifM mc na nb) :=
  PE.imp (pe_ifExp hc ha hb) fun σ H Q ⟨κ, Φ, s, I, q⟩ => by
    refine ⟨κ, Φ, s, I, (Po.seqW (f := fun b s1 => if b = true then na s1 else nb s1) q).weak fun v H1 h1 => ?_⟩
    obtain ⟨κ1, Φ1, s1, w, I1, st, g, q1⟩ := h1
    obtain rfl : v = w := g
    cases v with
    | true => exact ⟨κ1, Φ1, s1, I1, q1⟩
    | false => exact ⟨κ1, Φ1, s1, I1, q1⟩
theorem zt_if (hc : ZE X Wx (.IfExp c a b pos) na) (he : ∀ whole, isTrue (.IfExp c a b pos) X.env whole = (do let v ← whole; standAt pos; holding [v] (truthy v)) := by intro _; rfl) : ZT X Wx (.IfExp c a b pos) (fun s => asB (na s)) := zt_val hc he
/-- a op b op' c -/
def chM (ma mb mc : S → R W) (g g' : D → D → Option D) : S → R W := fun s => (ma s).then fun a s1 => (mb s1).then fun b s2 => (asB (op2 g s2 a b)).then fun k s3 => if k = true then (mc s3).then fun c s4 => op2 g' s4 b c else .ok (.fr (.bl false)) s3
theorem ze_chain {op op' : CmpOp} {g g' : D → D → Option D} (ho : ZO X (compareOp op) g) (ho' : ZO X (compareOp op') g') (ha : ZE X Wx a na) (hb : ZE X Wx b nb) (hc : ZE X Wx c nc)
    (hm : lastMarks [op, op'] [b, c] = false := by with_unfolding_all rfl) : ZE X Wx (.Compare a [op, op'] [b, c] pos) (chM na nb nc g g') := by
  obtain ⟨r, o, hr⟩ := ho
  obtain ⟨r', o', hr'⟩ := ho'
  refine PE.imp (pe_chain o o' ha hb hc hm) fun σ H Q ⟨κ, Φ, s, I, q⟩ => ?_
  refine ⟨κ, Φ, s, I, (Po.seqW (f := fun a s1 => (nb s1).then fun b s2 => (asB (op2 g s2 a b)).then fun k s3 => if k = true then (nc s3).then fun c s4 => op2 g' s4 b c else .ok (.fr (.bl false)) s3) q).weak fun v H1 h1 => ?_⟩
  obtain ⟨κ1, Φ1, s1, wa, I1, st1, g1, q1⟩ := h1
  refine ⟨κ1, Φ1, s1, I1, (Po.seqW q1).weak fun u H2 h2 => ?_⟩
  obtain ⟨κ2, Φ2, s2, wb, I2, st2, g2, q2⟩ := h2
  have q3 := po_asBv q2
  obtain ⟨x, y, d, e1, e2, e3, q4⟩ := op2_cases (P := fun r => Po X.K Wx (GW X.K) κ2 Φ2 H2 σ r _) q3 id
  refine hr Φ2 H2 v u x y d _ I2.sb (I2.vw (WAt.up g1 st2) e1) (I2.vw g2 e2) e3 fun z hz => ?_
  obtain ⟨κ3, Φ3, s3, k, I3, st3, e, q5⟩ := po_ret q4 I2 hz
  refine ⟨k, e, ?_⟩
  cases k with
  | false => exact po_ret (w := W.fr (.bl false)) q5 I3 (Rep.bl false)
  | true =>
    refine ⟨κ3, Φ3, s3, I3, (Po.seqW (f := fun c s4 => op2 g' s4 wb c) q5).weak fun y' H4 h4 => ?_⟩
    obtain ⟨κ4, Φ4, s4, wc, I4, st4, g4, q6⟩ := h4
    obtain ⟨x', y2, d', f1, f2, f3, q7⟩ := op2_cases (P := fun r => Po X.K Wx (GW X.K) κ4 Φ4 H4 σ r _) q6 id
    exact hr' Φ4 H4 u y' x' y2 d' _ I4.sb (I4.vw (WAt.up (WAt.up g2 st3) st4) f1) (I4.vw g4 f2) f3 fun z' hz' => po_ret q7 I4 hz'
end
end Z
namespace Z
open PySem PySem.Spec PyProof.Rows L2
/-! ### new objects -/
section
variable {K : PySem.W.Frag} {κ κ' : List Addr} {Φ H Φ' H' : Hp} {σ : L2.St} {s : S} {p : Addr} {o : HO}
theorem CellAt.live {c : Cell} {a : Addr} (sb : Sb Φ H) (h : CellAt K κ Φ H a c) : H a ≠ none := by
  cases c with
  | lst ds => obtain ⟨_, xs, h, _⟩ := h; rw [h]; simp
  | tup ds => obtain ⟨_, xs, h, _⟩ := h; rw [h]; simp
  | ins C ks ds => obtain ⟨_, dx, xs, h, _⟩ := h; rw [h]; simp
  | dk ks ds => obtain ⟨_, xs, h, _⟩ := h; rw [h]; simp
  | dt ks ds => obtain ⟨_, xs, h, _⟩ := h; rw [h]; simp
  | frz d =>
    intro z
    exact h.1 (sb.none z)
theorem SR.live (I : SR K κ Φ H σ s) {a : Addr} (h : a ∈ κ) : H a ≠ none := by
  obtain ⟨k, hk⟩ := List.getElem?_of_mem h
  have hl : k < s.st.length := by rw [← I.len]; exact (List.getElem?_eq_some_iff.mp hk).1
  exact (I.cells k _ a (List.getElem?_eq_getElem hl) hk).live I.sb
theorem CellAt.heap {c : Cell} {a : Addr} (h : CellAt K κ Φ H a c) (e : ∀ o, H a = some o → H' a = some o) : CellAt K κ Φ H' a c := by
  cases c with
  | tup ds => obtain ⟨z, xs, h, r⟩ := h; exact ⟨z, xs, e _ h, r⟩
  | ins C ks ds => obtain ⟨z, dx, xs, h, r⟩ := h; exact ⟨z, dx, xs, e _ h, r⟩
  | lst ds => obtain ⟨z, xs, h, r⟩ := h; exact ⟨z, xs, e _ h, r⟩
  | dk ks ds => obtain ⟨z, xs, h, r⟩ := h; exact ⟨z, xs, e _ h, r⟩
  | dt ks ds => obtain ⟨z, xs, h, r⟩ := h; exact ⟨z, xs, e _ h, r⟩
  | frz d => exact h
/-- the heap grows -/
theorem SR.grow (I : SR K κ Φ H σ s) (e : Sb H H') : SR K κ Φ H' σ s :=
  ⟨I.sb.trans e, I.nd, I.len, fun k c a h1 h2 => (I.cells k c a h1 h2).heap fun o h => e a o h, I.slen, I.env⟩
theorem Stp.grow (e : Sb H H') : Stp κ Φ H κ Φ H' :=
  ⟨Sb.refl Φ, fun a o h _ => e a o h, ⟨[], by simp, by simp⟩, fun _ _ h => .inl h, fun a o h => by rw [e a o h]; simp⟩
theorem SR.fresh (I : SR K κ Φ H σ s) (hp : H p = none) : Φ p = none ∧ p ∉ κ := ⟨I.sb.none hp, fun z => I.live z hp⟩
/-- an object of nobody's is given to the frozen -/
theorem SR.frz (I : SR K κ Φ H σ s) (ho : H p = some o) (hf : Φ p = none) (hk : p ∉ κ) : SR K κ (upd Φ p o) H σ s := by
  have e : Sb Φ (upd Φ p o) := Sb.new hf
  refine ⟨fun a u h => ?_, I.nd, I.len, fun k c a h1 h2 => (I.cells k c a h1 h2).up e fun u h => ?_, I.slen, fun i w hw => ?_⟩
  · by_cases ha : a = p
    · subst ha; rw [upd_same] at h; rw [ho]; exact h
    · rw [upd_ne ha] at h; exact I.sb a u h
  · have ha : a ≠ p := fun z => hk (z ▸ List.mem_of_getElem? h2)
    rw [upd_ne ha] at h; exact h
  · obtain ⟨v, h1, h2⟩ := I.env i w hw
    refine ⟨v, h1, ?_⟩
    cases w with
    | fr d => exact Rep.up h2 e
    | loc k => exact h2
theorem Stp.frz (a : Stp κ Φ H κ' Φ' H') (hp : H p = none) (hf : Φ' p = none) : Stp κ Φ H κ' (upd Φ' p o) H' :=
  ⟨a.fz.trans (Sb.new hf), a.fr, a.kp, fun b u h => by
    by_cases hb : b = p
    · subst hb; exact .inr (.inl hp)
    · rw [upd_ne hb] at h; exact a.nf b u h, a.al⟩
theorem pre_app (κ new : List Addr) : Pre κ (κ ++ new) := fun k a h => by rw [List.getElem?_append_left (List.getElem?_eq_some_iff.mp h).1]; exact h
/-- .. is taken as a cell -/
theorem SR.cell (I : SR K κ Φ H σ s) {c : Cell} (hk : p ∉ κ) (hc : CellAt K κ Φ H p c) : SR K (κ ++ [p]) Φ H σ { s with st := s.st ++ [c] } := by
  refine ⟨I.sb, ?_, by simp [I.len], fun k c' a h1 h2 => ?_, I.slen, fun i w hw => ?_⟩
  · rw [List.nodup_append]
    refine ⟨I.nd, by simp, fun a ha b hb => ?_⟩
    obtain rfl : b = p := by simpa using hb
    exact fun z => hk (z ▸ ha)
  · have h1 : (s.st ++ [c])[k]? = some c' := h1
    by_cases hl : k < s.st.length
    · rw [List.getElem?_append_left hl] at h1
      rw [List.getElem?_append_left (by rw [I.len]; exact hl)] at h2
      exact (I.cells k c' a h1 h2).upk (Sb.refl _) (pre_app _ _) fun _ h => h
    · rw [List.getElem?_append_right (by omega)] at h1
      rw [List.getElem?_append_right (by rw [I.len]; omega)] at h2
      rw [I.len] at h2
      cases e : k - s.st.length with
      | zero => rw [e] at h1 h2; simp at h1 h2; subst h1; subst h2; exact hc.upk (Sb.refl _) (pre_app _ _) fun _ h => h
      | succ n => rw [e] at h1; simp at h1
  · obtain ⟨v, h1, h2⟩ := I.env i w hw
    refine ⟨v, h1, ?_⟩
    cases w with
    | fr d => exact h2
    | loc k =>
      obtain ⟨a, e, r⟩ := h2
      exact ⟨a, by rw [List.getElem?_append_left (List.getElem?_eq_some_iff.mp e).1]; exact e, r⟩
theorem Stp.cell (a : Stp κ Φ H κ' Φ' H') (hp : H p = none) : Stp κ Φ H (κ' ++ [p]) Φ' H' := by
  obtain ⟨n, e, h⟩ := a.kp
  refine ⟨a.fz, a.fr, ⟨n ++ [p], by rw [e, List.append_assoc], fun b hb => ?_⟩, a.nf, a.al⟩
  rcases List.mem_append.mp hb with z | z
  · exact h b z
  · obtain rfl : b = p := by simpa using z
    exact hp
theorem rep_new {p : Addr} {xs : List V} {ds : List D} (hf : Φ p = none) (r : Reps K Φ xs ds) : Rep K (upd Φ p (.lst xs)) (.ref p) (.lst ds) := .lst upd_same (r.up (Sb.new hf))
theorem rep_newT {p : Addr} {xs : List V} {ds : List D} (hf : Φ p = none) (r : Reps K Φ xs ds) : Rep K (upd Φ p (.tup xs)) (.ref p) (.tup ds) := .tup upd_same (r.up (Sb.new hf))
end
section
variable {X : Cx} {Wx : WX}
def frLst (ws : List W) (s : S) : R W := (frzs ws s).then fun ds s2 => .ok (.fr (.lst ds)) s2
def loLst (ws : List W) (s : S) : R W := .ok (.loc s.st.length) { s with st := s.st ++ [.lst ws] }
def frN (m : S → R (List W)) : S → R W := fun s => (m s).then frLst
def loN (m : S → R (List W)) : S → R W := fun s => (m s).then loLst
theorem po_frN {K : PySem.W.Frag} {κ : List Addr} {Φ H : Hp} {σ : L2.St} {r : R (List W)} {Q : VK} (h : Po K Wx (GW K) κ Φ H σ (r.then frLst) Q) : Po K Wx (GN K) κ Φ H σ r Q := by
  cases r with
  | bad => exact h
  | er e s => exact h
  | ok ws s =>
    intro v κ' Φ' H' st I g
    obtain ⟨p, xs, rfl, h1, h2, h3, h4, h5⟩ := g
    have h : Po K Wx (GW K) κ Φ H σ ((frzs ws s).then fun ds s2 => .ok (.fr (.lst ds)) s2) Q := h
    cases q : frzs ws s with
    | bad => rw [q] at h; exact h.elim
    | er x y => exact absurd q frzs_er
    | ok ds s2 =>
      rw [q] at h
      obtain ⟨Φ2, st2, I2, r2⟩ := frzs_ok I h5 q
      have hf : Φ2 p = none := by
        cases z : Φ2 p with
        | none => rfl
        | some o => rcases st2.nf p o z with z | z | z
                    · rw [h2] at z; cases z
                    · rw [h4] at z; cases z
                    · exact absurd z h3
      exact h (.ref p) κ' (upd Φ2 p (.lst xs)) H' ((st.trans st2).frz h1 hf) (I2.frz h4 hf h3) (rep_new hf r2)
theorem po_loN {K : PySem.W.Frag} {κ : List Addr} {Φ H : Hp} {σ : L2.St} {r : R (List W)} {Q : VK} (h : Po K Wx (GW K) κ Φ H σ (r.then loLst) Q) : Po K Wx (GN K) κ Φ H σ r Q := by
  cases r with
  | bad => exact h
  | er e s => exact h
  | ok ds s =>
    intro v κ' Φ' H' st I g
    obtain ⟨p, xs, rfl, h1, h2, h3, h4, h5⟩ := g
    refine h (.ref p) (κ' ++ [p]) Φ' H' (st.cell h1) (I.cell h3 ⟨h2, xs, h4, h5⟩) ⟨p, ?_, rfl⟩
    rw [List.getElem?_append_right (by rw [I.len]; exact Nat.le_refl _), I.len]
    simp
theorem ze_frz {e : Expr} {m : S → R (List W)} (h : ZN X Wx e m) : ZE X Wx e (frN m) := PE.imp h fun σ H Q ⟨κ, Φ, s, I, q⟩ => ⟨κ, Φ, s, I, po_frN q⟩
theorem ze_loc {e : Expr} {m : S → R (List W)} (h : ZN X Wx e m) : ZE X Wx e (loN m) := PE.imp h fun σ H Q ⟨κ, Φ, s, I, q⟩ => ⟨κ, Φ, s, I, po_loN q⟩
/-! ### argument lists, displays -/
def nilA : S → R (List W) := fun s => .ok [] s
def consA (m : S → R W) (ms : S → R (List W)) : S → R (List W) := fun s => (m s).then fun w s1 => (ms s1).then fun ws s2 => .ok (w :: ws) s2
variable {e : Expr} {es : List Expr} {m : S → R W} {ms : S → R (List W)} {pos : Pos}
theorem za_nil : ZA X Wx [] nilA := PA.imp pa_nil fun σ H Q ⟨κ, Φ, s, I, q⟩ => po_ret q I (show GA X.K κ Φ H H [] [] from .nil)
theorem za_cons (ha : ZE X Wx e m) (hr : ZA X Wx es ms) (hs : starEach (e :: es) X.env = (false, eval e X.env) :: starEach es X.env := by rfl) : ZA X Wx (e :: es) (consA m ms) :=
  PA.imp (pa_cons ha hr hs) fun σ H Q ⟨κ, Φ, s, I, q⟩ => by
    refine ⟨κ, Φ, s, I, (Po.seqA (f := fun w s1 => (ms s1).then fun ws s2 => .ok (w :: ws) s2) q).weak fun v H1 h1 => ?_⟩
    obtain ⟨κ1, Φ1, s1, w, I1, st1, g1, q1⟩ := h1
    refine ⟨κ1, Φ1, s1, I1, (Po.seqA (f := fun ws s2 => R.ok (w :: ws) s2) q1).weak fun vs H2 h2 => ?_⟩
    obtain ⟨κ2, Φ2, s2, ws, I2, st2, g2, q2⟩ := h2
    exact po_ret q2 I2 (.cons (WAt.up g1 st2) g2)
/-- frozen, all of them -/
def frzA (ms : S → R (List W)) : S → R (List D) := fun s => (ms s).then fun ws s1 => frzs ws s1
theorem paired_len {α β : Type} {F : α → β → Prop} : ∀ {l₁ : List α} {l₂ : List β}, Paired F l₁ l₂ → l₁.length = l₂.length
  | _, _, .nil => rfl
  | _, _, .cons _ t => congrArg (· + 1) (paired_len t)
theorem po_frzA {K : PySem.W.Frag} {κ : List Addr} {Φ H : Hp} {σ : L2.St} {r : R (List W)} {f : List D → S → R γ} {δ : Type} {G' : List Addr → Hp → Hp → Hp → δ → γ → Prop} {Q : δ → Hp → Prop}
    (hG : ∀ (κ1 κ' : List Addr) (Φ1 H1 Φ' H' : Hp) (v : δ) (w : γ), Stp κ Φ H κ1 Φ1 H1 → G' κ' Φ' H1 H' v w → G' κ' Φ' H H' v w)
    (h : Po K Wx G' κ Φ H σ ((r.then fun ws s1 => frzs ws s1).then f) Q) :
    Po K Wx (GA K) κ Φ H σ r (fun vs H1 => ∃ κ1 Φ1 s1 ds, SR K κ1 Φ1 H1 σ s1 ∧ Stp κ Φ H κ1 Φ1 H1 ∧ Reps K Φ1 vs ds ∧ Po K Wx G' κ1 Φ1 H1 σ (f ds s1) Q) := by
  cases r with
  | bad => exact h
  | er e s => exact fun dd κ' Φ' H' st sr ea => h dd κ' Φ' H' st sr ea
  | ok ws s =>
    intro vs κ1 Φ1 H1 st I g
    have h : Po K Wx G' κ Φ H σ ((frzs ws s).then f) Q := h
    cases q : frzs ws s with
    | bad => rw [q] at h; exact h.elim
    | er x y => exact absurd q frzs_er
    | ok ds s2 =>
      rw [q] at h
      obtain ⟨Φ2, st2, I2, r⟩ := frzs_ok I g q
      refine ⟨κ1, Φ2, s2, ds, I2, st.trans st2, r, ?_⟩
      have h' : Po K Wx G' κ Φ H σ (f ds s2) Q := h
      revert h'
      generalize f ds s2 = r'
      intro h'
      cases r' with
      | bad => exact h'
      | er e s' => exact fun dd κ' Φ' H' st' sr' ea => h' dd κ' Φ' H' ((st.trans st2).trans st') sr' ea
      | ok b s' => exact fun v' κ' Φ' H' st' sr' g' => h' v' κ' Φ' H' ((st.trans st2).trans st') sr' (hG _ _ _ _ _ _ _ _ (st.trans st2) g')
def lstM (ms : S → R (List W)) : S → R (List W) := fun s => (ms s).then fun ws s1 => if ws.length ≤ sizeLine then .ok ws s1 else .bad
theorem zn_lst (h : ZA X Wx es ms) : ZN X Wx (.List es pos) (lstM ms) :=
  PE.imp (pe_lst h) fun σ H Q ⟨κ, Φ, s, I, q⟩ => by
    refine ⟨κ, Φ, s, I, (Po.seqN (G := GA X.K) (f := fun ws s1 => if ws.length ≤ sizeLine then .ok ws s1 else .bad) q).weak fun vs H1 ⟨κ1, Φ1, s1, ws, I1, st, r, q1⟩ => ?_⟩
    split at q1
    · rename_i hl
      refine ⟨by rw [Paired.length r]; exact hl, fun p hp => ?_⟩
      have e : Sb H1 (upd H1 p (.lst vs)) := Sb.new hp
      obtain ⟨hf, hk⟩ := I1.fresh hp
      exact q1 (.ref p) κ1 Φ1 _ (Stp.grow e) (I1.grow e) ⟨p, vs, rfl, hp, hf, hk, upd_same, r⟩
    · exact q1.elim
/-- a frozen value, of any expression -/
def fzM (m : S → R W) : S → R W := fun s => ((m s).then fun w s1 => frz1 w s1).then fun d s2 => .ok (.fr d) s2
theorem ze_fz {e : Expr} {m : S → R W} (h : ZE X Wx e m) : ZE X Wx e (fzM m) := PE.imp h fun σ H Q ⟨κ, Φ, s, I, q⟩ => ⟨κ, Φ, s, I, by
  unfold fzM at q
  cases e1 : m s with
  | bad => rw [e1] at q; exact q
  | er e s => rw [e1] at q; exact q
  | ok w s1 =>
    rw [e1] at q
    intro v κ' Φ' H' st I1 g
    have q : Po X.K Wx (GW X.K) κ Φ H σ ((frz1 w s1).then fun d s2 => .ok (.fr d) s2) Q := q
    cases e2 : frz1 w s1 with
    | bad => rw [e2] at q; exact q.elim
    | er x y => exact absurd e2 frz1_er
    | ok d s2 =>
      rw [e2] at q
      obtain ⟨Φ2, st2, I2, r2⟩ := frz1_ok I1 g e2
      exact q v κ' Φ2 H' (st.trans st2) I2 r2⟩
def tupM (ms : S → R (List W)) : S → R W := fun s => (frzA ms s).then fun ds s1 => if ds.length ≤ sizeLine then .ok (.fr (.tup ds)) s1 else .bad
theorem ze_tup {x1} (h : ZA X Wx es ms) : ZE X Wx (.Tuple es x1 pos) (tupM ms) :=
  PE.imp (pe_tup h) fun σ H Q ⟨κ, Φ, s, I, q⟩ => by
    refine ⟨κ, Φ, s, I, (po_frzA (f := fun ds s1 => if ds.length ≤ sizeLine then .ok (.fr (.tup ds)) s1 else .bad) (fun _ _ _ _ _ _ _ _ a g => gw_step a g) q).weak fun vs H1 h1 => ?_⟩
    obtain ⟨κ1, Φ1, s1, ds, I1, st, r, q1⟩ := h1
    split at q1
    · rename_i hl
      refine ⟨by rw [r.length]; exact hl, fun p hp => ?_⟩
      have e : Sb H1 (upd H1 p (.tup vs)) := Sb.new hp
      obtain ⟨hf, hk⟩ := I1.fresh hp
      exact q1 (.ref p) κ1 (upd Φ1 p (.tup vs)) _ ((Stp.grow e).frz hp hf) ((I1.grow e).frz upd_same hf hk) (rep_newT hf r)
    · exact q1.elim
/-! ### subscripts, truth -/
def ixD : D → D → Option D
  | .lst ds, .int i => atI ds i
  | .tup ds, .int i => atI ds i
  | .scr ns, .int i => (atI ns i).map .int
  | .str z, .int i => if z.length ≤ sizeLine then (atI z.cps.toList i).map fun c => .str ⟨#[c]⟩ else none
  | _, _ => none
theorem atI_reps {K : PySem.W.Frag} {Φ : Hp} {xs : List V} {ds : List D} {i : Int} {d : D} (r : Reps K Φ xs ds) (h : atI ds i = some d) : ∃ v, atI xs i = some v ∧ Rep K Φ v d := by
  unfold atI at h ⊢
  rw [r.length]
  cases e : ixN ds.length i with
  | none => rw [e] at h; cases h
  | some j => rw [e] at h; exact r.get h
theorem atI_map {α β : Type} (f : α → β) (xs : List α) (i : Int) : atI (xs.map f) i = (atI xs i).map f := by
  unfold atI
  rw [List.length_map]
  cases ixN xs.length i with
  | none => rfl
  | some j => show (xs.map f)[j]? = _; rw [List.getElem?_map]; rfl
theorem ix_read {Φ H : Hp} {x y : V} {a b d : D} {Q : VK} (sb : Sb Φ H) (hx : Vw X.K Φ H x a) (hy : Vw X.K Φ H y b) (e : ixD a b = some d) (k : ∀ v, Rep X.K Φ v d → Q v H) : rIx X.K x y H Q := by
  unfold ixD at e
  split at e
  · obtain ⟨p, xs, rfl, h1, r⟩ := hx
    rw [vw_int hy]
    obtain ⟨v, h2, h3⟩ := atI_reps r e
    exact .inl ⟨p, xs, _, v, rfl, rfl, .of h1, h2, k v h3⟩
  · obtain ⟨p, xs, rfl, h1, r⟩ := hx
    rw [vw_int hy]
    obtain ⟨v, h2, h3⟩ := atI_reps r e
    exact .inr (.inl ⟨p, xs, _, v, rfl, rfl, .of h1, h2, k v h3⟩)
  · rename_i ns i
    cases hx with
    | scr hs =>
      rw [vw_int hy]
      cases q : atI ns i with
      | none => rw [q] at e; cases e
      | some n =>
        rw [q] at e; cases e
        exact .inl ⟨_, _, _, .int n, rfl, rfl, sb_sql sb hs, by rw [atI_map, q]; rfl, k _ (.int n)⟩
  · split at e
    · rename_i z i hz
      rw [vw_str hx, vw_int hy]
      cases q : atI z.cps.toList i with
      | none => rw [q] at e; cases e
      | some c => rw [q] at e; cases e; exact .inr (.inr ⟨z, i, c, rfl, rfl, hz, q, k _ (.str _)⟩)
    · cases e
  · cases e
variable {a b : Expr} {na nb : S → R W}
/-- what stands at an index -/
def ixW (s : S) (w : W) (j : D) : Option W := match w with
  | .fr d => (ixD d j).map .fr
  | .loc k => match s.st[k]?, j with
    | some (.lst ws), .int i => atI ws i
    | some (.tup ws), .int i => atI ws i
    | some (.frz d), j => (ixD d j).map .fr
    | _, _ => none
theorem paired_get {α β : Type} {F : α → β → Prop} : ∀ {l₁ : List α} {l₂ : List β} {i : Nat} {y : β}, Paired F l₁ l₂ → l₂[i]? = some y → ∃ x, l₁[i]? = some x ∧ F x y
  | _, _, _, _, .nil, e => by simp at e
  | _, _, 0, _, .cons h _, e => by simp at e; subst e; exact ⟨_, rfl, h⟩
  | _, _, i + 1, y, .cons _ r, e => by
    obtain ⟨v, a, b⟩ := paired_get (i := i) (y := y) r (by simpa using e)
    exact ⟨v, by simpa using a, b⟩
theorem atI_paired {α β : Type} {F : α → β → Prop} {xs : List α} {ys : List β} {i : Int} {y : β} (r : Paired F xs ys) (h : atI ys i = some y) : ∃ x, atI xs i = some x ∧ F x y := by
  unfold atI at h ⊢
  rw [Paired.length r]
  cases e : ixN ys.length i with
  | none => rw [e] at h; cases h
  | some j => rw [e] at h; exact paired_get r h
theorem ixW_read {κ : List Addr} {Φ H : Hp} {σ : L2.St} {s : S} {x y : V} {a u : W} {b : D} {Q : VK} (I : SR X.K κ Φ H σ s) (hx : WAt X.K κ Φ x a) (hy : Vw X.K Φ H y b) (e : ixW s a b = some u) (k : ∀ v, WAt X.K κ Φ v u → Q v H) : rIx X.K x y H Q := by
  have fr : ∀ d, Rep X.K Φ x d → (ixD d b).map W.fr = some u → rIx X.K x y H Q := fun d h q => by
    obtain ⟨d', q2, rfl⟩ := Option.map_eq_some_iff.mp q
    exact ix_read I.sb (Rep.vw I.sb h) hy q2 fun v hv => k v hv
  cases a with
  | fr d => exact fr d hx e
  | loc m =>
    obtain ⟨p, hp, rfl⟩ := hx
    obtain ⟨c, hk, hc⟩ := I.cellAt hp
    unfold ixW at e
    dsimp only at e
    rw [hk] at e
    split at e
    · rename_i h; cases h
      obtain ⟨_, xs, h1, r⟩ := hc
      rw [vw_int hy]
      obtain ⟨v, h2, h3⟩ := atI_paired r e
      exact .inl ⟨p, xs, _, v, rfl, rfl, .of h1, h2, k v h3⟩
    · rename_i h; cases h
      obtain ⟨_, xs, h1, r⟩ := hc
      rw [vw_int hy]
      obtain ⟨v, h2, h3⟩ := atI_paired r e
      exact .inr (.inl ⟨p, xs, _, v, rfl, rfl, .of h1, h2, k v h3⟩)
    · rename_i h; cases h
      exact fr _ hc.2 e
    · cases e
def ixM (na nb : S → R W) : S → R W := bM na nb fun s a b => match view s b with
  | some j => (match ixW s a j with | some u => .ok u s | none => .bad)
  | none => .bad
theorem ze_ix (ha : ZE X Wx a na) (hb : ZE X Wx b nb) (hs : PlainIx b := by exact fun _ _ => rfl) : ZE X Wx (.Subscript a b pos) (ixM na nb) :=
  PE.imp (pe_ix ix_seq ha hb hs) fun σ H Q ⟨κ, Φ, s, I, q⟩ => by
    refine ⟨κ, Φ, s, I, (Po.seqW (f := fun a s1 => (nb s1).then fun b s2 => match view s2 b with
      | some j => (match ixW s2 a j with | some u => .ok u s2 | none => .bad)
      | none => .bad) q).weak fun v H1 ⟨κ1, Φ1, s1, wa, I1, st1, g1, q1⟩ => ?_⟩
    refine ⟨κ1, Φ1, s1, I1, (Po.seqW (f := fun b s2 => match view s2 b with
      | some j => (match ixW s2 wa j with | some u => .ok u s2 | none => .bad)
      | none => .bad) q1).weak fun u H2 ⟨κ2, Φ2, s2, wb, I2, st2, g2, q2⟩ => ?_⟩
    cases e1 : view s2 wb with
    | none => rw [e1] at q2; exact q2.elim
    | some j =>
      rw [e1] at q2
      dsimp only at q2
      cases e2 : ixW s2 wa j with
      | none => rw [e2] at q2; exact q2.elim
      | some r => rw [e2] at q2; exact ixW_read I2 (WAt.up g1 st2) (I2.vw g2 e1) e2 fun v hv => po_ret q2 I2 hv
/-- a value's truth -/
def truD : D → Option Bool
  | .non => some false
  | .bl b => some b
  | .int i => some (i != 0)
  | .str y => if y.length ≤ sizeLine then some ((y.length : Int) != 0) else none
  | .lst ds => some (!ds.isEmpty)
  | .tup ds => some (!ds.isEmpty)
  | .dk ks _ => some (!ks.isEmpty)
  | _ => none
def truW (s : S) (w : W) : Option Bool := match w with
  | .fr d => truD d
  | .loc k => match s.st[k]? with
    | some (.lst ws) => some (!ws.isEmpty)
    | some (.tup ws) => some (!ws.isEmpty)
    | some (.dk ks _) => some (!ks.isEmpty)
    | some (.frz d) => truD d
    | _ => none
theorem reps_empty {K : PySem.W.Frag} {Φ : Hp} {xs : List V} {ds : List D} (r : Reps K Φ xs ds) : xs.isEmpty = ds.isEmpty := by
  cases r <;> rfl
theorem paired_empty {α β : Type} {F : α → β → Prop} {xs : List α} {ds : List β} (r : Paired F xs ds) : xs.isEmpty = ds.isEmpty := by
  cases r <;> rfl
theorem zip_empty {α β : Type} {ks : List α} {xs : List β} (l : ks.length = xs.length) : (ks.zip xs).isEmpty = ks.isEmpty := by
  cases ks with
  | nil => rfl
  | cons k ks => cases xs with
    | nil => simp at l
    | cons x xs => rfl
theorem tru_ok {K : PySem.W.Frag} {Φ H : Hp} {v : V} {d : D} {k : Bool} (h : Vw K Φ H v d) (e : truD d = some k) : TruV K v H k := by
  cases d with
  | non => rw [vw_non h]; cases e; rfl
  | bl b => rw [vw_bl h]; cases e; rfl
  | int i => rw [vw_int h]; cases e; rfl
  | str y =>
    rw [vw_str h]
    unfold truD at e
    dsimp only at e
    split at e
    · rename_i hy; cases e; exact ⟨hy, rfl⟩
    · cases e
  | lst ds => obtain ⟨a, xs, rfl, h1, r⟩ := h; cases e; exact .inl ⟨xs, .of h1, by rw [reps_empty r]⟩
  | tup ds => obtain ⟨a, xs, rfl, h1, r⟩ := h; cases e; exact .inr (.inl ⟨xs, .of h1, by rw [reps_empty r]⟩)
  | dk ks ds =>
    obtain ⟨a, xs, rfl, h1, l, r⟩ := h
    cases e
    exact .inr (.inr ⟨_, h1, by rw [zip_empty l]⟩)
  | scr ns => cases e
  | dt ks ds => cases e
  | ins C ks ds => cases e
theorem truW_ok {κ : List Addr} {Φ H : Hp} {σ : L2.St} {s : S} {v : V} {w : W} {k : Bool} (I : SR X.K κ Φ H σ s) (h : WAt X.K κ Φ v w) (e : truW s w = some k) : TruV X.K v H k := by
  cases w with
  | fr d => exact tru_ok (Rep.vw I.sb h) e
  | loc m =>
    obtain ⟨p, hp, rfl⟩ := h
    obtain ⟨c, hk, hc⟩ := I.cellAt hp
    unfold truW at e
    dsimp only at e
    rw [hk] at e
    cases c with
    | lst ws => obtain ⟨_, xs, h1, r⟩ := hc; cases e; exact .inl ⟨xs, .of h1, by rw [paired_empty r]⟩
    | tup ws => obtain ⟨_, xs, h1, r⟩ := hc; cases e; exact .inr (.inl ⟨xs, .of h1, by rw [paired_empty r]⟩)
    | dk ks ws => obtain ⟨_, xs, h1, l, r⟩ := hc; cases e; exact .inr (.inr ⟨_, h1, by rw [zip_empty l]⟩)
    | dt ks ws => cases e
    | ins C ks ws => cases e
    | frz d => exact tru_ok (Rep.vw I.sb hc.2) e
def trM (m : S → R W) : S → R Bool := fun s => (m s).then fun w s1 => match truW s1 w with
  | some k => .ok k s1
  | none => .bad
theorem zt_tru (ha : ZE X Wx a na) (he : ∀ whole, isTrue a X.env whole = (do let v ← whole; standAt a.pos; holding [v] (truthy v)) := by intro _; rfl) : ZT X Wx a (trM na) :=
  PT.imp (pt_truth ha he) fun σ H Q ⟨κ, Φ, s, I, q⟩ => by
    refine ⟨κ, Φ, s, I, (Po.seqB (f := fun w s1 => match truW s1 w with | some k => .ok k s1 | none => .bad) q).weak fun v H1 h1 => ?_⟩
    obtain ⟨κ1, Φ1, s1, w, I1, st, g, q1⟩ := h1
    cases e2 : truW s1 w with
    | none => rw [e2] at q1; exact q1.elim
    | some k => rw [e2] at q1; exact ⟨k, truW_ok I1 g e2, po_ret q1 I1 rfl⟩
end
end Z
namespace Z
open PySem PySem.Spec PyProof.Rows L2
/-! ### zip of lists and tuples in any mix -/
def SqX (t : Bool) (K : PySem.W.Frag) (H : Hp) (a : Addr) (xs : List V) : Prop := if t = true then SqT K H a xs else SqL K H a xs
def IsX (t : Bool) (h : Heap) (a : Addr) (its : Array Value) : Prop := if t = true then h.IsTuple a its else h.IsList a its
def IsXIter (t : Bool) (h : Heap) (it a : Addr) (i : Nat) : Prop := if t = true then h.IsTupleIter it a i else h.IsListIter it a i
theorem isx_src {X : Cx} {pins : List (Addr × Obj)} {σ : L2.St} {H : Hp} {s : Shared} {t : Bool} {a : Addr} {xs : List V} (I : Inv X pins σ H s) (h : SqX t X.K H a xs) : ∃ its : List Value, Vals xs its ∧ IsX t s.heap a its.toArray := by
  cases t with
  | true =>
    obtain ⟨its, r, p, _⟩ := I.tuple (show SqT X.K H a xs from h)
    exact ⟨its, r, p⟩
  | false =>
    obtain ⟨its, r, p, _⟩ := I.list (show SqL X.K H a xs from h)
    exact ⟨its, r, p.isList⟩
theorem sqx_inj {X : Cx} {pins : List (Addr × Obj)} {σ : L2.St} {H : Hp} {s : Shared} {t : Bool} {a : Addr} {xs ys : List V} (I : Inv X pins σ H s) (h : SqX t X.K H a xs) (h' : SqX t X.K H a ys) : xs = ys := by
  cases t with
  | true => exact I.tuple_inj h h'
  | false => exact I.list_inj h h'
theorem isx_lt {t : Bool} {h : Heap} {a : Addr} {its : Array Value} (x : IsX t h a its) : a < h.objs.size := by
  cases t with
  | true => obtain ⟨o, e, _⟩ := (show h.IsTuple a its from x); exact Heap.lt_size e
  | false => obtain ⟨o, e, _⟩ := (show h.IsList a its from x); exact Heap.lt_size e
theorem isx_draws (t : Bool) {prog : Program} {w : World} {A : Around} (hh : A.handled = none) (it l : Addr) (hne : l ≠ it) (items : Array Value) :
    Draws prog w A it [it, l] items.size (fun i v => items[i]? = some v) (fun i h => IsXIter t h it l i ∧ IsX t h l items) := by
  cases t with
  | true => exact Draws.tuple hh it l hne items
  | false => exact Draws.list hh it l hne items
theorem isxi_at {t : Bool} {h h' : Heap} {it a : Addr} {i : Nat} (x : IsXIter t h it a i) (k : ∀ o, h.get? it = some o → h'.get? it = some o) : IsXIter t h' it a i := by
  cases t with
  | true => exact Heap.IsTupleIter.at (show h.IsTupleIter it a i from x) k
  | false => exact Heap.IsListIter.at (show h.IsListIter it a i from x) k
theorem isxi_obj {t : Bool} {h : Heap} {it a : Addr} {i : Nat} (x : IsXIter t h it a i) : ∃ o, h.get? it = some o ∧ ∀ v, o.data ≠ .cell v := by
  cases t with
  | true => obtain ⟨o, e, _, d⟩ := (show h.IsTupleIter it a i from x); exact ⟨o, e, fun v q => by rw [d] at q; cases q⟩
  | false => obtain ⟨o, e, _, d⟩ := (show h.IsListIter it a i from x); exact ⟨o, e, fun v q => by rw [d] at q; cases q⟩
theorem isx_begins (t : Bool) (l : Addr) (items : Array Value) : ∃ o : Obj, Begins (.ref l) o (fun h => IsX t h l items) ∧ ∀ (h : Heap) (it : Addr), h.get? it = some o → IsXIter t h it l 0 := by
  cases t with
  | true => exact ⟨_, begins_tuple l items, fun h it e => ⟨_, e, rfl, rfl⟩⟩
  | false => exact ⟨_, begins_list l items, fun h it e => ⟨_, e, rfl, rfl⟩⟩
def ItzX (t1 t2 : Bool) (K : PySem.W.Frag) (a b : Addr) : It :=
  ⟨fun i H => ∃ (xs ys : List V) (x y : V), SqX t1 K H a xs ∧ SqX t2 K H b ys ∧ xs[i]? = some x ∧ ys[i]? = some y,
    fun i H v H' => ∃ T x y, v = .ref T ∧ H T = none ∧ H' = upd H T (.tup [x, y]) ∧ (∀ xs, SqX t1 K H a xs → xs[i]? = some x) ∧ ∀ ys, SqX t2 K H b ys → ys[i]? = some y,
    fun i H => ∃ xs ys : List V, SqX t1 K H a xs ∧ SqX t2 K H b ys ∧ min xs.length ys.length = i⟩
structure ZSep (z TI TO i1 i2 a b : Addr) : Prop where
  s : ZipSep2 z TI TO i1 i2 [i1, a] [i2, b]
  a1 : a ≠ i1
  b2 : b ≠ i2
theorem turn_zipX {P : Program} {w : World} {K : PySem.W.Frag} {elts : List Expr} {kk : Nat} {tpos : Pos} {t1 t2 : Bool} {a b z TI TO i1 i2 : Addr} (D : ZSep z TI TO i1 i2 a b) :
    Turn P w K (.Tuple elts kk tpos) (ItzX t1 t2 K a b) [z, TI, TO, i1, i2] z (fun i h => IsZip h z TI TO .none ∧ IsTupOf2 h TI (.ref i1) (.ref i2) ∧ (∃ x y, IsTupOf2 h TO x y) ∧ IsXIter t1 h i1 a i ∧ IsXIter t2 h i2 b i) where
  mem := by simp
  obj := fun i h st c hc => by
    obtain ⟨hz, hTI, ⟨x, y, hTO⟩, h1, h2⟩ := st
    have e' : c = z ∨ c = TI ∨ c = TO ∨ c = i1 ∨ c = i2 := by simpa using hc
    rcases e' with q | q | q | q | q
    · rw [q]; exact ⟨_, hz, fun v q => nomatch q⟩
    · rw [q]; exact ⟨_, hTI, fun v q => nomatch q⟩
    · rw [q]; exact ⟨_, hTO, fun v q => nomatch q⟩
    · rw [q]; exact isxi_obj h1
    · rw [q]; exact isxi_obj h2
  keep := fun i h h' st k => by
    obtain ⟨hz, hTI, ⟨x, y, hTO⟩, h1, h2⟩ := st
    exact ⟨k z (by simp) _ hz, k TI (by simp) _ hTI, ⟨x, y, k TO (by simp) _ hTO⟩, isxi_at h1 fun o q => k i1 (by simp) o q, isxi_at h2 fun o q => k i2 (by simp) o q⟩
  item := by
    intro X hP hw hK hc i pins s σ H E I hf st hg
    subst hP hw hK
    obtain ⟨hz, hTI, hTO, h1, h2⟩ := st
    obtain ⟨xs, ys, x, y, hqx, hqy, hx, hy⟩ := hg
    obtain ⟨its, rv, p⟩ := isx_src I hqx
    obtain ⟨its2, rv2, p2⟩ := isx_src I hqy
    obtain ⟨u, hu, ru⟩ := rv.get hx
    obtain ⟨u2, hu2, ru2⟩ := rv2.get hy
    have hi : i < min its.toArray.size its2.toArray.size := by
      have l1 := (List.getElem?_eq_some_iff.mp hu).1
      have l2 := (List.getElem?_eq_some_iff.mp hu2).1
      rw [List.size_toArray, List.size_toArray]
      omega
    have hh : X.A.handled = none := I.ok.hd hc
    have G := GoesN.zip2 (prog := X.prog) (w := X.w) (A := X.A) (elts := elts) (x1 := kk) (pos := tpos) D.s (isx_draws (prog := X.prog) (w := X.w) (A := X.A.in1) t1 hh i1 a D.a1 its.toArray) (isx_draws (prog := X.prog) (w := X.w) (A := X.A.in1) t2 hh i2 b D.b2 its2.toArray)
    refine wpAny_mono (G.goes i s (fun v s2 => ∃ x' H', Inv X pins σ H' s2 ∧ RelV x' v ∧ (ItzX t1 t2 X.K a b).yld i H x' H' ∧ (IsZip s2.heap z TI TO .none ∧ IsTupOf2 s2.heap TI (.ref i1) (.ref i2) ∧ (∃ x y, IsTupOf2 s2.heap TO x y) ∧ IsXIter t1 s2.heap i1 a (i + 1) ∧ IsXIter t2 s2.heap i2 b (i + 1)) ∧ ∀ b' ∈ [z, TI, TO, i1, i2], H' b' = none) E hi ⟨hz, hTI, hTO, ⟨h1, p⟩, ⟨h2, p2⟩⟩ fun v h' tk hY st' hk _ => ?_)
      (fun r s1 ⟨v, e, q⟩ => ⟨v, e, q⟩) (fun _ _ q => q)
    obtain ⟨T, v1, v2, rfl, hn, e1, e2, hT⟩ := hY
    obtain ⟨z', ti', to', ⟨i1', _⟩, ⟨i2', _⟩⟩ := st'
    have q1 : v1 = u := by simpa using e1.symm.trans (show its.toArray[i]? = some u by simpa using hu)
    have q2 : v2 = u2 := by simpa using e2.symm.trans (show its2.toArray[i]? = some u2 by simpa using hu2)
    subst q1 q2
    obtain ⟨oT, eT, cT, nT, dT⟩ := hT
    have hTn : H T = none := I.hok.fresh hn
    have new : ObjOk X.prog X.w (upd H T (.tup [x, y])) h' T (.tup [x, y]) := ⟨by show 2 ≤ sizeLine; decide, [v1, v2], .cons ru (.cons ru2 .nil), ⟨oT, eT, cT, nT, dT⟩⟩
    have I1 : Inv X pins σ (upd H T (.tup [x, y])) { s with heap := h', toks := tk } :=
      I.turnedNew (t' := tk) (ch := [z, TI, TO, i1, i2]) (fun c o hb q => hk c o (fun q' => hb (by
        have e' : c = z ∨ c = TO ∨ c = i1 ∨ c = i2 := by simpa using q'
        rcases e' with q | q | q | q <;> simp [q])) q) hf hn new
    refine ⟨.ref T, _, I1, rfl, ⟨T, x, y, rfl, hTn, rfl, fun l hl => by rw [sqx_inj I hl hqx]; exact hx, fun l hl => by rw [sqx_inj I hl hqy]; exact hy⟩, ⟨z', ti', to', i1', i2'⟩, fun c hcm => ?_⟩
    have hlt : c < s.heap.objs.size := by
      obtain ⟨x0, y0, hTO⟩ := hTO
      have e' : c = z ∨ c = TI ∨ c = TO ∨ c = i1 ∨ c = i2 := by simpa using hcm
      rcases e' with q | q | q | q | q
      · rw [q]; exact Heap.lt_size hz
      · rw [q]; exact Heap.lt_size hTI
      · rw [q]; exact Heap.lt_size hTO
      · rw [q]; obtain ⟨_, e1, _⟩ := isxi_obj h1; exact Heap.lt_size e1
      · rw [q]; obtain ⟨_, e2, _⟩ := isxi_obj h2; exact Heap.lt_size e2
    rw [upd_ne (Nat.ne_of_lt (Nat.lt_of_lt_of_le hlt hn))]
    exact (hf c hcm).1
  done := by
    intro X hP hw hK hc i pins s σ H E I hf st hg
    subst hP hw hK
    obtain ⟨hz, hTI, hTO, h1, h2⟩ := st
    obtain ⟨xs, ys, hqx, hqy, hend⟩ := hg
    obtain ⟨its, rv, p⟩ := isx_src I hqx
    obtain ⟨its2, rv2, p2⟩ := isx_src I hqy
    have l1 := rv.length
    have l2 := rv2.length
    have hh : X.A.handled = none := I.ok.hd hc
    have G := GoesN.zip2 (prog := X.prog) (w := X.w) (A := X.A) (elts := elts) (x1 := kk) (pos := tpos) D.s (isx_draws (prog := X.prog) (w := X.w) (A := X.A.in1) t1 hh i1 a D.a1 its.toArray) (isx_draws (prog := X.prog) (w := X.w) (A := X.A.in1) t2 hh i2 b D.b2 its2.toArray)
    have hn : min its.toArray.size its2.toArray.size = i := by
      rw [List.size_toArray, List.size_toArray, ← l1, ← l2]
      exact hend
    have hS : (IsZip s.heap z TI TO .none ∧ IsTupOf2 s.heap TI (.ref i1) (.ref i2) ∧ (∃ a1 a2, IsTupOf2 s.heap TO a1 a2) ∧ (IsXIter t1 s.heap i1 a (min its.toArray.size its2.toArray.size) ∧ IsX t1 s.heap a its.toArray) ∧ (IsXIter t2 s.heap i2 b (min its.toArray.size its2.toArray.size) ∧ IsX t2 s.heap b its2.toArray)) := by
      rw [hn]
      exact ⟨hz, hTI, hTO, ⟨h1, p⟩, ⟨h2, p2⟩⟩
    refine G.stops s (fun s1 => Inv X pins σ H s1) E hS fun h' tk hk _ => ?_
    exact I.turnedL (t' := tk) (ch := [z, TI, TO, i1, i2]) (fun c o hb q => hk c o (fun q' => hb (by
        have e' : c = z ∨ c = TO ∨ c = i1 ∨ c = i2 := by simpa using q'
        rcases e' with q | q | q | q <;> simp [q])) q) hf
  self := fun A i s Q E st h => wpAny_pyIter_zip st.1 h
def iZipX (K : PySem.W.Frag) (ta : TA) : TI := fun σ H R => ta σ H fun vs H1 => ∃ t1 t2 a b xs ys, vs = [.ref a, .ref b] ∧ SqX t1 K H1 a xs ∧ SqX t2 K H1 b ys ∧ R (ItzX t1 t2 K a b) H1
theorem pi_zipX {X : Cx} {e e2 : Expr} {ta : TA} {p pos tpos : Pos} {elts : List Expr} {kk : Nat} (hg : Gl X "zip") (hm : X.mg "zip" = none) (ha : PA X [e, e2] ta)
    (hs : starEach [e, e2] X.env = (false, eval e X.env) :: starEach [e2] X.env := by rfl) (hpl : (backTo pos (starEach [e2] X.env)).any (·.1) = false := by rfl) :
    PI X (.Tuple elts kk tpos) (.Call (.Name "zip" p) [e, e2] [] pos) (iZipX X.K ta) := by
  refine ⟨fun pins s σ H R I h => ?_⟩
  refine Call_ (ld_blt I hg hm PyProof.Rows.boot_zip (PyProof.Rows.callWith_type1 (thn (ha.run pos pins s σ H _ I h) fun us s1 ⟨vs, H1, I1, r1, q1⟩ => ?_) hs hpl))
  obtain ⟨t1, t2, a, b, xs, ys, ex, hqx, hqy, q⟩ := q1
  subst ex
  cases r1 with
  | cons r rr =>
    cases rr with
    | cons r' rr =>
      cases rr
      cases r
      cases r'
      have fresh5 : ∀ c, c ∈ [s1.heap.objs.size + 4, s1.heap.objs.size + 2, s1.heap.objs.size + 3, s1.heap.objs.size, s1.heap.objs.size + 1] → FpOk X pins H1 c := fun c hcm => by
        have e' : c = s1.heap.objs.size + 4 ∨ c = s1.heap.objs.size + 2 ∨ c = s1.heap.objs.size + 3 ∨ c = s1.heap.objs.size ∨ c = s1.heap.objs.size + 1 := by simpa using hcm
        have hle : s1.heap.objs.size ≤ c := by
          rcases e' with z | z | z | z | z
          · rw [z]; exact Nat.le_add_right _ _
          · rw [z]; exact Nat.le_add_right _ _
          · rw [z]; exact Nat.le_add_right _ _
          · rw [z]; exact Nat.le_refl _
          · rw [z]; exact Nat.le_add_right _ _
        exact I1.fpOk hle (I1.hok.fresh hle)
      obtain ⟨its, rv, p1⟩ := isx_src I1 hqx
      obtain ⟨its2, rv2, p2⟩ := isx_src I1 hqy
      obtain ⟨o1, B1, b1⟩ := isx_begins t1 a its.toArray
      obtain ⟨o2, B2, b2⟩ := isx_begins t2 b its2.toArray
      have la := isx_lt p1
      have lb := isx_lt p2
      refine zip_begins2 B1 B2 p1 p2 fun h' hz hTI hTO h1 h2 hsz hk => wpAny_pyIter_zip hz ?_
      have I2 : Inv X pins σ H1 { s1 with heap := h' } := I1.kept (t' := s1.toks) hk
      have sep := zip_sep2 (N := s1.heap.objs.size) (fp1 := [a]) (fp2 := [b]) (fun c hc => by simp at hc; subst hc; exact la) (fun c hc => by simp at hc; subst hc; exact lb)
      exact ⟨s1.heap.objs.size + 4, [s1.heap.objs.size + 4, s1.heap.objs.size + 2, s1.heap.objs.size + 3, s1.heap.objs.size, s1.heap.objs.size + 1], _, _, H1, rfl, I2,
        turn_zipX (t1 := t1) (t2 := t2) (a := a) (b := b) ⟨sep, Nat.ne_of_lt la, Nat.ne_of_lt (Nat.lt_succ_of_lt lb)⟩, ⟨hz, hTI, ⟨_, _, hTO⟩, b1 _ _ h1, b2 _ _ h2⟩, fresh5, q⟩
end Z
namespace Z
open PySem PySem.Spec PyProof.Rows L2
/-! ### what is walked -/
inductive Src where
  | fx (items : List W) | lv (k : Nat)
def Src.len : Src → S → Nat
  | .fx items, _ => items.length
  | .lv k, s => match s.st[k]? with
    | some (.lst ws) => ws.length
    | _ => 0
/-- the item at i now: none: not known; none within: the end -/
def Src.get : Src → S → Nat → Option (Option W)
  | .fx items, _, i => some items[i]?
  | .lv k, s, i => match s.st[k]? with
    | some (.lst ws) => some ws[i]?
    | _ => none
def Src.le : Src → Nat → Prop
  | .fx items, i => i ≤ items.length
  | .lv _, _ => True
theorem Src.le0 (src : Src) : src.le 0 := by cases src with | fx items => exact Nat.zero_le _ | lv k => trivial
theorem Src.leS {src : Src} {s : S} {i : Nat} {w : W} (h : src.get s i = some (some w)) : src.le (i + 1) := by
  cases src with
  | fx items => exact (List.getElem?_eq_some_iff.mp (Option.some.inj h)).1
  | lv k => trivial
def ItOk (K : PySem.W.Frag) (J : It) (κ1 : List Addr) (Φ1 : Hp) (src : Src) : Prop := ∀ κ Φ H σ s, Pre κ1 κ → Sb Φ1 Φ → SR K κ Φ H σ s → ∀ (i : Nat), src.le i →
  (∀ w, src.get s i = some (some w) → J.go i H ∧ ∀ x H', J.yld i H x H' → ∃ Φ', Sb Φ Φ' ∧ Sb Φ' H' ∧ Sb H H' ∧ (∀ a o, Φ' a = some o → Φ a = some o ∨ H a = none) ∧ WAt K κ Φ' x w) ∧ (src.get s i = some none → J.stop i H)
/-- items that are frozen -/
def ItFx (K : PySem.W.Frag) (J : It) (Φ1 : Hp) (items : List D) : Prop := ∀ Φ H, Sb Φ1 Φ → Sb Φ H →
  (∀ (i : Nat) (d : D), items[i]? = some d → J.go i H ∧ ∀ x H', J.yld i H x H' → ∃ Φ', Sb Φ Φ' ∧ Sb Φ' H' ∧ Sb H H' ∧ (∀ a o, Φ' a = some o → Φ a = some o ∨ H a = none) ∧ Rep K Φ' x d) ∧ J.stop items.length H
abbrev Src.ds (items : List D) : Src := .fx (items.map W.fr)
theorem ItFx.ok {K : PySem.W.Frag} {J : It} {κ : List Addr} {Φ : Hp} {items : List D} (h : ItFx K J Φ items) : ItOk K J κ Φ (.ds items) := fun κ' Φ' H σ s _ sb I i hle => by
  obtain ⟨go, stop⟩ := h Φ' H sb I.sb
  refine ⟨fun w e => ?_, fun e => ?_⟩
  · have e : (items.map W.fr)[i]? = some w := Option.some.inj e
    rw [List.getElem?_map] at e
    obtain ⟨d, hd, rfl⟩ := Option.map_eq_some_iff.mp e
    exact go i d hd
  · have e : (items.map W.fr)[i]? = none := Option.some.inj e
    rw [List.getElem?_eq_none_iff, List.length_map] at e
    have hle : i ≤ (items.map W.fr).length := hle
    rw [List.length_map] at hle
    rw [Nat.le_antisymm hle e]
    exact stop
def GI (K : PySem.W.Frag) : List Addr → Hp → Hp → Hp → It → Src → Prop := fun κ' Φ' _ _ J src => ItOk K J κ' Φ' src
def ZI (X : Cx) (Wx : WX) (tg e : Expr) (m : S → R Src) : Prop := PI X tg e (tG X.K Wx (GI X.K) m)
theorem PI.imp {X : Cx} {tg e : Expr} {t t' : TI} (h : PI X tg e t) (k : ∀ σ H Q, t' σ H Q → t σ H Q) : PI X tg e t' := ⟨fun pins s σ H Q I q => h.run pins s σ H Q I (k σ H Q q)⟩
theorem Po.seqI {K : PySem.W.Frag} {Wx : WX} {α β : Type} {G : List Addr → Hp → Hp → Hp → β → α → Prop} {κ : List Addr} {Φ H : Hp} {σ : L2.St} {r : R α} {f : α → S → R Src} {Q : It → Hp → Prop} (h : Po K Wx (GI K) κ Φ H σ (r.then f) Q) :
    Po K Wx G κ Φ H σ r (fun v H1 => ∃ κ1 Φ1 s1 w, SR K κ1 Φ1 H1 σ s1 ∧ Stp κ Φ H κ1 Φ1 H1 ∧ G κ1 Φ1 H H1 v w ∧ Po K Wx (GI K) κ1 Φ1 H1 σ (f w s1) Q) := Po.seq (fun _ g => g) h
section
variable {X : Cx} {Wx : WX} {tg : Expr}
def iSeq (K : PySem.W.Frag) (tl : TE) : TI := fun σ H R => tl σ H fun x H1 => (∃ a, x = .ref a ∧ (∃ xs, SqL K H1 a xs) ∧ R (Itl K a) H1) ∨ (∃ a, x = .ref a ∧ (∃ xs, SqT K H1 a xs) ∧ R (Itt K a) H1) ∨ ∃ z, x = .str z ∧ R (Its z) H1
theorem pi_seq {l : Expr} {tl : TE} (hl : PE X l tl) : PI X tg l (iSeq X.K tl) := by
  refine ⟨fun pins s σ H R I h => ?_⟩
  refine thn (hl.run pins s σ H _ I h) fun v s1 ⟨x, H1, I1, r1, q1⟩ => ?_
  rcases q1 with ⟨a, e, ⟨xs, hq⟩, q⟩ | ⟨a, e, ⟨xs, hq⟩, q⟩ | ⟨z, e, q⟩
  · subst e
    cases r1
    obtain ⟨its, rv, p, hz⟩ := I1.list hq
    refine wpAny_pyIter_list p.isList ?_
    refine ⟨s1.heap.objs.size, [s1.heap.objs.size], _, _, H1, rfl, I1.kept (t' := s1.toks) fun b o e => Heap.get?_push_of_some _ e, turn_list a _, ⟨_, Heap.get?_push_size _ rfl, rfl, rfl⟩, fun b hb => ?_, q⟩
    have e : b = s1.heap.objs.size := by simpa using hb
    subst e
    exact I1.fpOk (Nat.le_refl _) (I1.hok.fresh (Nat.le_refl _))
  · subst e
    cases r1
    obtain ⟨its, rv, p, hz⟩ := I1.tuple hq
    refine wpAny_pyIter_tuple (show s1.heap.IsTuple a its.toArray from p) ?_
    refine ⟨s1.heap.objs.size, [s1.heap.objs.size], _, _, H1, rfl, I1.kept (t' := s1.toks) fun b o e => Heap.get?_push_of_some _ e, turn_tuple a _, ⟨_, Heap.get?_push_size _ rfl, rfl, rfl⟩, fun b hb => ?_, q⟩
    have e : b = s1.heap.objs.size := by simpa using hb
    subst e
    exact I1.fpOk (Nat.le_refl _) (I1.hok.fresh (Nat.le_refl _))
  · subst e
    obtain ⟨t, rfl⟩ := r1
    cases ha : z.cps.all (· < 128)
    · exact wpAny_pyIter_wide ha (pi_one (tk := s1.toks) I1 _ (turn_str _ z t "str_iterator" (.inr rfl)) ⟨_, Heap.get?_push_size _ rfl, rfl, rfl⟩ q)
    · exact wpAny_pyIter_ascii ha (pi_one (tk := s1.toks) I1 _ (turn_str _ z t "str_ascii_iterator" (.inl rfl)) ⟨_, Heap.get?_push_size _ rfl, rfl, rfl⟩ q)
def itemsD : D → Option (List D)
  | .lst ds => some ds
  | .tup ds => some ds
  | .scr ns => some (ns.map .int)
  | .str z => some (z.cps.toList.map fun c => .str ⟨#[c]⟩)
  | _ => none
theorem itl_ok {K : PySem.W.Frag} {Φ : Hp} {a : Addr} {xs : List V} {ds : List D} (hq : SqL K Φ a xs) (r : Reps K Φ xs ds) : ItFx K (Itl K a) Φ ds := fun Φ' H s1 s2 => by
  have hq2 : SqL K H a xs := sb_sql (s1.trans s2) hq
  refine ⟨fun i d hd => ?_, ⟨xs, hq2, by rw [r.length]; exact Nat.le_refl _⟩⟩
  obtain ⟨v, h1, h2⟩ := r.get hd
  refine ⟨⟨xs, v, hq2, h1⟩, fun x H' hy => ?_⟩
  obtain ⟨e, h3⟩ := hy
  rw [e]
  have e2 : x = v := Option.some.inj ((h3 xs hq2).symm.trans h1)
  rw [e2]
  exact ⟨Φ', Sb.refl _, s2, Sb.refl _, fun _ _ h => .inl h, h2.up s1⟩
theorem itt_ok {K : PySem.W.Frag} {Φ : Hp} {a : Addr} {xs : List V} {ds : List D} (hq : Φ a = some (.tup xs)) (r : Reps K Φ xs ds) : ItFx K (Itt K a) Φ ds := fun Φ' H s1 s2 => by
  have hq2 : SqT K H a xs := .of (s2 _ _ (s1 _ _ hq))
  refine ⟨fun i d hd => ?_, ⟨xs, hq2, by rw [r.length]; exact Nat.le_refl _⟩⟩
  obtain ⟨v, h1, h2⟩ := r.get hd
  refine ⟨⟨xs, v, hq2, h1⟩, fun x H' hy => ?_⟩
  obtain ⟨e, h3⟩ := hy
  rw [e]
  have e2 : x = v := Option.some.inj ((h3 xs hq2).symm.trans h1)
  rw [e2]
  exact ⟨Φ', Sb.refl _, s2, Sb.refl _, fun _ _ h => .inl h, h2.up s1⟩
theorem its_ok {K : PySem.W.Frag} {Φ : Hp} (z : Str) : ItFx K (Its z) Φ (z.cps.toList.map fun c => .str ⟨#[c]⟩) := fun Φ' H s1 s2 => by
  refine ⟨fun i d hd => ?_, by show z.cps.size ≤ _; simp⟩
  rw [List.getElem?_map] at hd
  cases q : z.cps.toList[i]? with
  | none => rw [q] at hd; cases hd
  | some c =>
    rw [q] at hd
    cases hd
    have hi : i < z.cps.size := by simpa using (List.getElem?_eq_some_iff.mp q).1
    refine ⟨hi, fun x H' hy => ?_⟩
    obtain ⟨e, c', h3, ex⟩ := hy
    rw [e]
    have ec : c' = c := by
      have h4 : z.cps.toList[i]? = some c' := by simpa using h3
      exact Option.some.inj (h4.symm.trans q)
    rw [ex, ec]
    exact ⟨Φ', Sb.refl _, s2, Sb.refl _, fun _ _ h => .inl h, .str _⟩
theorem itr_ok {K : PySem.W.Frag} {Φ : Hp} (lo : Int) (n : Nat) : ItFx K (Itr lo n) Φ ((List.range n).map fun i => .int (lo + (i : Nat))) := fun Φ' H s1 s2 => by
  refine ⟨fun i d hd => ?_, by show n ≤ _; simp⟩
  rw [List.getElem?_map] at hd
  cases q : (List.range n)[i]? with
  | none => rw [q] at hd; cases hd
  | some c =>
    rw [q] at hd
    cases hd
    obtain ⟨h1, h2⟩ := List.getElem?_eq_some_iff.mp q
    rw [List.getElem_range] at h2
    subst h2
    refine ⟨by show i < n; simpa using h1, fun x H' hy => ?_⟩
    obtain ⟨e, ex⟩ := hy
    rw [e, ex]
    exact ⟨Φ', Sb.refl _, s2, Sb.refl _, fun _ _ h => .inl h, .int _⟩
theorem po_frz {K : PySem.W.Frag} {κ : List Addr} {Φ H : Hp} {σ : L2.St} {r : R W} {γ δ : Type} {f : D → S → R γ} {G' : List Addr → Hp → Hp → Hp → δ → γ → Prop} {Q : δ → Hp → Prop}
    (hG : ∀ (κ1 κ' : List Addr) (Φ1 H1 Φ' H' : Hp) (v : δ) (w : γ), Stp κ Φ H κ1 Φ1 H1 → G' κ' Φ' H1 H' v w → G' κ' Φ' H H' v w)
    (h : Po K Wx G' κ Φ H σ ((r.then fun w s1 => frz1 w s1).then f) Q) :
    Po K Wx (GW K) κ Φ H σ r (fun v H1 => ∃ κ1 Φ1 s1 d, SR K κ1 Φ1 H1 σ s1 ∧ Stp κ Φ H κ1 Φ1 H1 ∧ Rep K Φ1 v d ∧ Po K Wx G' κ1 Φ1 H1 σ (f d s1) Q) := by
  cases r with
  | bad => exact h
  | er e s => exact fun dd κ' Φ' H' st sr ea => h dd κ' Φ' H' st sr ea
  | ok w s =>
    intro v κ1 Φ1 H1 st I g
    have h : Po K Wx G' κ Φ H σ ((frz1 w s).then f) Q := h
    cases q : frz1 w s with
    | bad => rw [q] at h; exact h.elim
    | er x y => exact absurd q frz1_er
    | ok d s2 =>
      rw [q] at h
      obtain ⟨Φ2, st2, I2, r⟩ := frz1_ok I g q
      refine ⟨κ1, Φ2, s2, d, I2, st.trans st2, r, ?_⟩
      have h' : Po K Wx G' κ Φ H σ (f d s2) Q := h
      revert h'
      generalize f d s2 = r'
      intro h'
      cases r' with
      | bad => exact h'
      | er e s' => exact fun dd κ' Φ' H' st' sr' ea => h' dd κ' Φ' H' ((st.trans st2).trans st') sr' ea
      | ok b s' => exact fun v' κ' Φ' H' st' sr' g' => h' v' κ' Φ' H' ((st.trans st2).trans st') sr' (hG _ _ _ _ _ _ _ _ (st.trans st2) g')
theorem itlv_ok {K : PySem.W.Frag} {κ : List Addr} {Φ : Hp} {k : Nat} {p : Addr} (hp : κ[k]? = some p) : ItOk K (Itl K p) κ Φ (.lv k) := fun κ' Φ' H σ s pr sb I i _ => by
  have hp2 := pr k p hp
  obtain ⟨c, hk, hc⟩ := I.cellAt hp2
  refine ⟨fun w e => ?_, fun e => ?_⟩
  · unfold Src.get at e
    dsimp only at e
    rw [hk] at e
    cases c with
    | lst ws =>
      obtain ⟨_, xs, h1, r⟩ := hc
      have e : ws[i]? = some w := Option.some.inj e
      obtain ⟨v, h2, h3⟩ := paired_get r e
      have hq : SqL K H p xs := .of h1
      refine ⟨⟨xs, v, hq, h2⟩, fun x H' hy => ?_⟩
      obtain ⟨e, h4⟩ := hy
      rw [e]
      have e2 : x = v := Option.some.inj ((h4 xs hq).symm.trans h2)
      rw [e2]
      exact ⟨Φ', Sb.refl _, I.sb, Sb.refl _, fun _ _ h => .inl h, h3⟩
    | _ => cases e
  · unfold Src.get at e
    dsimp only at e
    rw [hk] at e
    cases c with
    | lst ws =>
      obtain ⟨_, xs, h1, r⟩ := hc
      have e : ws[i]? = none := Option.some.inj e
      rw [List.getElem?_eq_none_iff] at e
      exact ⟨xs, .of h1, by rw [Paired.length r]; exact e⟩
    | _ => cases e
def srcW (s : S) (w : W) : Option Src := match w with
  | .fr d => (itemsD d).map .ds
  | .loc k => match s.st[k]? with
    | some (.lst _) => some (.lv k)
    | some (.frz d) => (itemsD d).map .ds
    | _ => none
def seqI (m : S → R W) : S → R Src := fun s => (m s).then fun w s1 => match srcW s1 w with | some src => .ok src s1 | none => .bad
theorem zi_seq {e : Expr} {m : S → R W} (h : ZE X Wx e m) : ZI X Wx tg e (seqI m) :=
  PI.imp (pi_seq h) fun σ H Q ⟨κ, Φ, s, I, q⟩ => by
    refine ⟨κ, Φ, s, I, (Po.seqI (G := GW X.K) (f := fun w s1 => match srcW s1 w with | some src => .ok src s1 | none => .bad) q).weak fun v H1 h1 => ?_⟩
    obtain ⟨κ1, Φ1, s1, w, I1, st, g, q1⟩ := h1
    have fr : ∀ d src, Rep X.K Φ1 v d → (itemsD d).map Src.ds = some src → Po X.K Wx (GI X.K) κ1 Φ1 H1 σ (.ok src s1) Q → (∃ a, v = .ref a ∧ (∃ xs, SqL X.K H1 a xs) ∧ Q (Itl X.K a) H1) ∨ (∃ a, v = .ref a ∧ (∃ xs, SqT X.K H1 a xs) ∧ Q (Itt X.K a) H1) ∨ ∃ z, v = .str z ∧ Q (Its z) H1 := fun d src r e q1 => by
      cases r with
      | lst h1 r => cases e; exact .inl ⟨_, rfl, ⟨_, .of (I1.sb _ _ h1)⟩, po_ret q1 I1 (itl_ok (.of h1) r).ok⟩
      | tup h1 r => cases e; exact .inr (.inl ⟨_, rfl, ⟨_, .of (I1.sb _ _ h1)⟩, po_ret q1 I1 (itt_ok h1 r).ok⟩)
      | scr h1 => cases e; exact .inl ⟨_, rfl, ⟨_, sb_sql I1.sb h1⟩, po_ret q1 I1 (itl_ok h1 (Reps.ints _)).ok⟩
      | str z => cases e; exact .inr (.inr ⟨z, rfl, po_ret q1 I1 (its_ok z).ok⟩)
      | non => cases e
      | bl b => cases e
      | int i => cases e
      | dk h l r => cases e
      | dt h l r => cases e
      | ins h l r => cases e
    cases e1 : srcW s1 w with
    | none => rw [e1] at q1; exact q1.elim
    | some src =>
      rw [e1] at q1
      cases w with
      | fr d => exact fr d src g e1 q1
      | loc k =>
        obtain ⟨p, hp, rfl⟩ := g
        obtain ⟨c, hk, hc⟩ := I1.cellAt hp
        unfold srcW at e1
        dsimp only at e1
        rw [hk] at e1
        cases c with
        | lst ws =>
          cases e1
          obtain ⟨_, xs, h1, r⟩ := hc
          exact .inl ⟨p, rfl, ⟨xs, .of h1⟩, po_ret q1 I1 (itlv_ok hp)⟩
        | frz d => exact fr d src hc.2 e1 q1
        | _ => cases e1
/-- an argument list of ints -/
def ints1 (s : S) : List W → Option Int
  | [w] => match view s w with | some (.int i) => some i | _ => none
  | _ => none
def ints2 (s : S) : List W → Option (Int × Int)
  | [w, u] => match view s w, view s u with | some (.int i), some (.int j) => some (i, j) | _, _ => none
  | _ => none
theorem ints1_ok {K : PySem.W.Frag} {κ : List Addr} {Φ H H0 : Hp} {σ : L2.St} {s : S} {vs : List V} {ws : List W} {i : Int} (I : SR K κ Φ H σ s) (g : GA K κ Φ H0 H vs ws) (e : ints1 s ws = some i) : vs = [.int i] := by
  unfold ints1 at e
  split at e
  · rename_i w
    split at e
    · rename_i j hv
      cases e
      cases g with
      | cons a r => cases r; rw [vw_int (I.vw a hv)]
    · cases e
  · cases e
theorem ints2_ok {K : PySem.W.Frag} {κ : List Addr} {Φ H H0 : Hp} {σ : L2.St} {s : S} {vs : List V} {ws : List W} {i j : Int} (I : SR K κ Φ H σ s) (g : GA K κ Φ H0 H vs ws) (e : ints2 s ws = some (i, j)) : vs = [.int i, .int j] := by
  unfold ints2 at e
  split at e
  · rename_i w u
    split at e
    · rename_i a b hv hu
      cases e
      cases g with
      | cons a r => cases r with
        | cons b r => cases r; rw [vw_int (I.vw a hv), vw_int (I.vw b hu)]
    · cases e
  · cases e
def rngI1 (ms : S → R (List W)) : S → R Src := fun s => (ms s).then fun ws s1 => match ints1 s1 ws with
  | some j => if -(2 ^ 62) ≤ j ∧ j < 2 ^ 62 then .ok (.ds ((List.range j.toNat).map fun i => .int (0 + (i : Nat)))) s1 else .bad
  | none => .bad
def rngI2 (ms : S → R (List W)) : S → R Src := fun s => (ms s).then fun ws s1 => match ints2 s1 ws with
  | some (i, j) => if -(2 ^ 62) ≤ i ∧ i < 2 ^ 62 ∧ -(2 ^ 62) ≤ j ∧ j < 2 ^ 62 then .ok (.ds ((List.range (j - i).toNat).map fun k => .int (i + (k : Nat)))) s1 else .bad
  | none => .bad
variable {a b : Expr} {ms : S → R (List W)} {p pos : Pos}
theorem zi_range1 (hg : Gl X "range") (hm : X.mg "range" = none) (ha : ZA X Wx [a] ms) (hs : starEach [a] X.env = [(false, eval a X.env)] := by rfl) : ZI X Wx tg (.Call (.Name "range" p) [a] [] pos) (rngI1 ms) :=
  PI.imp (pi_range1 hg hm ha hs) fun σ H Q ⟨κ, Φ, s, I, q⟩ => by
    refine ⟨κ, Φ, s, I, (Po.seqI (f := fun ws s1 => match ints1 s1 ws with
      | some j => if -(2 ^ 62) ≤ j ∧ j < 2 ^ 62 then .ok (.ds ((List.range j.toNat).map fun i => .int (0 + (i : Nat)))) s1 else .bad
      | none => .bad) q).weak fun vs H1 h1 => ?_⟩
    obtain ⟨κ1, Φ1, s1, ws, I1, st, g, q1⟩ := h1
    cases e : ints1 s1 ws with
    | none => rw [e] at q1; exact q1.elim
    | some j =>
      rw [e] at q1
      dsimp only at q1
      split at q1
      · rename_i hj
        exact ⟨j, ints1_ok I1 g e, hj.1, hj.2, po_ret q1 I1 (itr_ok 0 _).ok⟩
      · exact q1.elim
theorem zi_range2 (hg : Gl X "range") (hm : X.mg "range" = none) (ha : ZA X Wx [a, b] ms) (hs : starEach [a, b] X.env = [(false, eval a X.env), (false, eval b X.env)] := by rfl) (hs2 : starEach [b] X.env = [(false, eval b X.env)] := by rfl) : ZI X Wx tg (.Call (.Name "range" p) [a, b] [] pos) (rngI2 ms) :=
  PI.imp (pi_range2 hg hm ha hs hs2) fun σ H Q ⟨κ, Φ, s, I, q⟩ => by
    refine ⟨κ, Φ, s, I, (Po.seqI (f := fun ws s1 => match ints2 s1 ws with
      | some (i, j) => if -(2 ^ 62) ≤ i ∧ i < 2 ^ 62 ∧ -(2 ^ 62) ≤ j ∧ j < 2 ^ 62 then .ok (.ds ((List.range (j - i).toNat).map fun k => .int (i + (k : Nat)))) s1 else .bad
      | none => .bad) q).weak fun vs H1 h1 => ?_⟩
    obtain ⟨κ1, Φ1, s1, ws, I1, st, g, q1⟩ := h1
    cases e : ints2 s1 ws with
    | none => rw [e] at q1; exact q1.elim
    | some ij =>
      obtain ⟨i, j⟩ := ij
      rw [e] at q1
      dsimp only at q1
      split at q1
      · rename_i hj
        exact ⟨i, j, ints2_ok I1 g e, hj, po_ret q1 I1 (itr_ok i _).ok⟩
      · exact q1.elim
/-- zip of two, each a list or a tuple (frozen) -/
def itemsX : D → Option (List D)
  | .lst ds => some ds
  | .tup ds => some ds
  | .scr ns => some (ns.map .int)
  | _ => none
def zipD : List D → Option (List D)
  | [x, y] => match itemsX x, itemsX y with
    | some xs, some ys => some ((xs.zip ys).map fun p => D.tup [p.1, p.2])
    | _, _ => none
  | _ => none
theorem zipD_some {ds items : List D} (h : zipD ds = some items) : ∃ x y xs ys, ds = [x, y] ∧ itemsX x = some xs ∧ itemsX y = some ys ∧ items = (xs.zip ys).map fun p => D.tup [p.1, p.2] := by
  unfold zipD at h
  split at h
  · rename_i x y
    split at h
    · rename_i xs ys h1 h2; exact ⟨x, y, xs, ys, rfl, h1, h2, (Option.some.inj h).symm⟩
    · cases h
  · cases h
def zipI (ms : S → R (List W)) : S → R Src := fun s => (frzA ms s).then fun ds s1 => match zipD ds with
  | some items => .ok (.ds items) s1
  | none => .bad
theorem src_of {K : PySem.W.Frag} {Φ H : Hp} {v : V} {x : D} {xs : List D} (sb : Sb Φ H) (h : Rep K Φ v x) (e : itemsX x = some xs) : ∃ t a vs, v = .ref a ∧ SqX t K H a vs ∧ Reps K Φ vs xs ∧ ∀ Φ' H', Sb Φ Φ' → Sb Φ' H' → SqX t K H' a vs := by
  cases h with
  | lst h r => cases e; exact ⟨false, _, _, rfl, .of (sb _ _ h), r, fun Φ' H' s1 s2 => .of (s2 _ _ (s1 _ _ h))⟩
  | tup h r => cases e; exact ⟨true, _, _, rfl, .of (sb _ _ h), r, fun Φ' H' s1 s2 => .of (s2 _ _ (s1 _ _ h))⟩
  | scr h => cases e; exact ⟨false, _, _, rfl, sb_sql sb h, Reps.ints _, fun Φ' H' s1 s2 => sb_sql (s1.trans s2) h⟩
  | str z => cases e
  | non => cases e
  | bl b => cases e
  | int i => cases e
  | dk h l r => cases e
  | dt h l r => cases e
  | ins h l r => cases e
theorem zi_zip {elts : List Expr} {kk : Nat} {tpos : Pos} (hg : Gl X "zip") (hm : X.mg "zip" = none) (ha : ZA X Wx [a, b] ms)
    (hs : starEach [a, b] X.env = (false, eval a X.env) :: starEach [b] X.env := by rfl) (hpl : (backTo pos (starEach [b] X.env)).any (·.1) = false := by rfl) : ZI X Wx (.Tuple elts kk tpos) (.Call (.Name "zip" p) [a, b] [] pos) (zipI ms) :=
  PI.imp (pi_zipX hg hm ha hs hpl) fun σ H Q ⟨κ, Φ, s, I, q⟩ => by
    refine ⟨κ, Φ, s, I, (po_frzA (f := fun ds s1 => match zipD ds with | some items => R.ok (Src.ds items) s1 | none => .bad) (fun _ _ _ _ _ _ _ _ _ g => g) q).weak fun vs H1 h1 => ?_⟩
    obtain ⟨κ1, Φ1, s1, ds, I1, st, r, q1⟩ := h1
    cases hz : zipD ds with
    | none => rw [hz] at q1; exact q1.elim
    | some items =>
      rw [hz] at q1
      have q3 : Po X.K Wx (GI X.K) κ1 Φ1 H1 σ (.ok (.ds items) s1) Q := q1
      obtain ⟨x, y, xs, ys, rfl, ex, ey, rfl⟩ := zipD_some hz
      cases r with
      | cons r1 r => cases r with
        | cons r2 r =>
              cases r
              obtain ⟨t1, a, us, rfl, hq1, rr1, k1⟩ := src_of I1.sb r1 ex
              obtain ⟨t2, b, us2, rfl, hq2, rr2, k2⟩ := src_of I1.sb r2 ey
              refine ⟨t1, t2, a, b, us, us2, rfl, hq1, hq2, po_ret q3 I1 (ItFx.ok fun Φ' H' s1' s2' => ⟨fun i d hd => ?_, ⟨us, us2, k1 _ _ s1' s2', k2 _ _ s1' s2', ?_⟩⟩)⟩
              · rw [List.getElem?_map] at hd
                cases ez : (xs.zip ys)[i]? with
                | none => rw [ez] at hd; cases hd
                | some p =>
                  rw [ez] at hd
                  cases hd
                  obtain ⟨px, py⟩ := p
                  obtain ⟨e1, e2⟩ := List.getElem?_zip_eq_some.mp ez
                  obtain ⟨v1, g1, g2⟩ := rr1.get e1
                  obtain ⟨v2, g3, g4⟩ := rr2.get e2
                  refine ⟨⟨us, us2, v1, v2, k1 _ _ s1' s2', k2 _ _ s1' s2', g1, g3⟩, fun z H2 hy => ?_⟩
                  obtain ⟨T, x', y', rfl, hT, rfl, f1, f2⟩ := hy
                  have ex' : x' = v1 := Option.some.inj ((f1 us (k1 _ _ s1' s2')).symm.trans g1)
                  have ey' : y' = v2 := Option.some.inj ((f2 us2 (k2 _ _ s1' s2')).symm.trans g3)
                  subst ex' ey'
                  have hf : Φ' T = none := s2'.none hT
                  refine ⟨upd Φ' T (.tup [x', y']), Sb.new hf, fun a u h => ?_, Sb.new hT, fun a u h => ?_, rep_newT hf (.cons (g2.up s1') (.cons (g4.up s1') .nil))⟩
                  · by_cases ha : a = T
                    · subst ha; rw [upd_same] at h; rw [upd_same]; exact h
                    · rw [upd_ne ha] at h; rw [upd_ne ha]; exact s2' a u h
                  · by_cases ha : a = T
                    · subst ha; exact .inr hT
                    · rw [upd_ne ha] at h; exact .inl h
              · rw [List.length_map, List.length_zip, rr1.length, rr2.length]
end
end Z
namespace Z
open PySem PySem.Spec PyProof.Rows L2
/-! ### targets -/
def tTg (K : PySem.W.Frag) (bd : W → S → Option S) (vs : List Nat) : TG := fun v σ H Q => ∃ κ Φ s d, SR K κ Φ H σ s ∧ WAt K κ Φ v d ∧ ∃ s', bd d s = some s' ∧
  ∀ σ' : L2.St, σ'.length = σ.length → (∀ j, j ∉ vs → σ'[j]? = σ[j]?) → SR K κ Φ H σ' s' → Q σ' H
def tTgs (K : PySem.W.Frag) (bd : List W → S → Option S) (vs : List Nat) : TGs := fun us σ H Q => ∃ κ Φ s ds, SR K κ Φ H σ s ∧ WsAt K κ Φ us ds ∧ ∃ s', bd ds s = some s' ∧
  ∀ σ' : L2.St, σ'.length = σ.length → (∀ j, j ∉ vs → σ'[j]? = σ[j]?) → SR K κ Φ H σ' s' → Q σ' H
def ZG (X : Cx) (tg : Expr) (bd : W → S → Option S) (vs : List Nat) : Prop := PG X tg (tTg X.K bd vs)
def ZGs (X : Cx) (tgs : List Expr) (bd : List W → S → Option S) (vs : List Nat) : Prop := PGs X tgs (tTgs X.K bd vs)
theorem PG.imp {X : Cx} {tg : Expr} {t t' : TG} (h : PG X tg t) (k : ∀ v σ H Q, t' v σ H Q → t v σ H Q) : PG X tg t' := ⟨fun pins s σ H v u Q I r q => h.run pins s σ H v u Q I r (k v σ H Q q)⟩
theorem PGs.imp {X : Cx} {tg : List Expr} {t t' : TGs} (h : PGs X tg t) (k : ∀ v σ H Q, t' v σ H Q → t v σ H Q) : PGs X tg t' := ⟨fun pins s σ H v u Q I r q => h.run pins s σ H v u Q I r (k v σ H Q q)⟩
section
variable {X : Cx} 
theorem SR.set {K : PySem.W.Frag} {κ : List Addr} {Φ H : Hp} {σ : L2.St} {s : S} {i : Nat} {v : V} {w : W} (I : SR K κ Φ H σ s) (h : WAt K κ Φ v w) : SR K κ Φ H (σ.set i (some v)) { s with env := s.env.set i (some w) } := by
  refine ⟨I.sb, I.nd, I.len, I.cells, by simp [I.slen], fun j u e => ?_⟩
  have e : (s.env.set i (some w))[j]? = some (some u) := e
  by_cases hj : j = i
  · subst hj
    have hl : j < s.env.length := by
      have := (List.getElem?_eq_some_iff.mp e).1
      simpa using this
    rw [List.getElem?_set_self hl] at e
    cases e
    exact ⟨v, by rw [List.getElem?_set_self (by rw [I.slen]; exact hl)], h⟩
  · rw [List.getElem?_set_ne (Ne.symm hj)] at e
    rw [List.getElem?_set_ne (Ne.symm hj)]
    exact I.env j u e
def bName (i : Nat) : W → S → Option S := fun w s => some { s with env := s.env.set i (some w) }
theorem zg_name {i : Nat} {x : Str} {pos : Pos} (hN : X.N.Nodup) (hi : X.N[i]? = some x) (hx : Loc X.env.scope x) (hf : X.fn x = true ∨ X.env.scope.names.lookup x = some .local := by first | exact .inl rfl | exact .inr rfl | assumption) : ZG X (.Name x pos) (bName i) [i] :=
  PG.imp (pg_name hN hi hx hf) fun v σ H Q ⟨κ, Φ, s, d, I, r, s', e, k⟩ => by
    cases e
    exact k _ (by simp) (fun j hj => by rw [List.getElem?_set_ne (by intro z; exact hj (by simp [z]))]) (I.set r)
def bNil : List W → S → Option S | [], s => some s | _ :: _, _ => none
def bCons (b : W → S → Option S) (bs : List W → S → Option S) : List W → S → Option S | d :: ds, s => (b d s).bind (bs ds) | [], _ => none
/-- what a tuple holds -/
def tupW (s : S) : W → Option (List W)
  | .fr (.tup ds) => some (ds.map .fr)
  | .fr _ => none
  | .loc k => match s.st[k]? with
    | some (.tup ws) => some ws
    | some (.frz (.tup ds)) => some (ds.map .fr)
    | _ => none
theorem tupW_ok {K : PySem.W.Frag} {κ : List Addr} {Φ H : Hp} {σ : L2.St} {s : S} {v : V} {w : W} {ws : List W} (I : SR K κ Φ H σ s) (h : WAt K κ Φ v w) (e : tupW s w = some ws) : ∃ a xs, v = .ref a ∧ H a = some (.tup xs) ∧ WsAt K κ Φ xs ws := by
  have fr : ∀ d, Rep K Φ v d → (match d with | .tup ds => some (ds.map W.fr) | _ => none) = some ws → ∃ a xs, v = .ref a ∧ H a = some (.tup xs) ∧ WsAt K κ Φ xs ws := fun d h e => by
    cases h with
    | tup h1 r => cases e; exact ⟨_, _, rfl, I.sb _ _ h1, reps_ws r⟩
    | _ => cases e
  cases w with
  | fr d => exact fr d h (by cases d <;> exact e)
  | loc k =>
    obtain ⟨p, hp, rfl⟩ := h
    obtain ⟨c, hk, hc⟩ := I.cellAt hp
    unfold tupW at e
    dsimp only at e
    rw [hk] at e
    cases c with
    | tup ws' => cases e; obtain ⟨_, xs, h1, r⟩ := hc; exact ⟨p, xs, rfl, h1, r⟩
    | frz d => exact fr d hc.2 (by cases d <;> exact e)
    | _ => cases e
def bTup (n : Nat) (bs : List W → S → Option S) : W → S → Option S := fun w s => match tupW s w with
  | some ws => if ws.length = n then bs ws s else none
  | none => none
theorem zgs_nil : ZGs X [] bNil [] := PGs.imp pgs_nil fun us σ H Q ⟨κ, Φ, s, ds, I, r, s', e, k⟩ => by
  cases r with
  | nil => cases e; exact ⟨rfl, k σ rfl (fun _ _ => rfl) I⟩
  | cons a r => cases e
theorem zgs_cons {e : Expr} {es : List Expr} {b : W → S → Option S} {bs : List W → S → Option S} {vs vs' : List Nat} (h1 : ZG X e b vs) (h2 : ZGs X es bs vs') (hs : (assignEach (e :: es) X.env).map (·.2) = assign e X.env :: (assignEach es X.env).map (·.2) := by rfl) : ZGs X (e :: es) (bCons b bs) (vs ++ vs') :=
  PGs.imp (pgs_cons h1 h2 hs) fun us σ H Q ⟨κ, Φ, s, ds, I, r, s', e, k⟩ => by
    cases r with
    | nil => cases e
    | @cons v d vr dr a r =>
      change (b d s).bind (bs dr) = some s' at e
      cases q : b d s with
      | none => rw [q] at e; cases e
      | some s1 =>
        rw [q] at e
        refine ⟨v, vr, rfl, κ, Φ, s, d, I, a, s1, q, fun σ1 l1 o1 I1 => ?_⟩
        refine ⟨κ, Φ, s1, dr, I1, r, s', e, fun σ2 l2 o2 I2 => k σ2 (l2.trans l1) (fun j hj => ?_) I2⟩
        rw [List.mem_append, not_or] at hj
        rw [o2 j hj.2, o1 j hj.1]
theorem zg_tup {es : List Expr} {n kk : Nat} {pos : Pos} {bs : List W → S → Option S} {vs : List Nat} (hc : X.calm = true) (h : ZGs X es bs vs) (hn : (assignEach es X.env).length = n := by rfl) (hst : (assignEach es X.env).findIdx? (·.1) = none := by rfl) : ZG X (.Tuple es kk pos) (bTup n bs) vs :=
  PG.imp (pg_tup (n := n) hc h hn hst) fun v σ H Q ⟨κ, Φ, s, d, I, r, s', e, k⟩ => by
    unfold bTup at e
    cases e1 : tupW s d with
    | none => rw [e1] at e; cases e
    | some ws =>
      rw [e1] at e
      obtain ⟨a, xs, rfl, h1, r⟩ := tupW_ok I r e1
      have e2 : (if ws.length = n then bs ws s else none) = some s' := e
      split at e2
      · rename_i hl
        exact ⟨_, _, rfl, .of h1, by rw [Paired.length r]; exact hl, κ, Φ, s, _, I, r, s', e2, k⟩
      · cases e2
/-! ### a comprehension -/
def wipeW (env : List (Option W)) : List Nat → List (Option W)
  | [] => env
  | v :: vs => (wipeW env vs).set v none
theorem wipeW_length (env : List (Option W)) : ∀ vs, (wipeW env vs).length = env.length
  | [] => rfl
  | v :: vs => by unfold wipeW; rw [List.length_set, wipeW_length env vs]
theorem wipeW_get {env : List (Option W)} {i : Nat} {w : W} : ∀ {vs : List Nat}, (wipeW env vs)[i]? = some (some w) → env[i]? = some (some w) ∧ i ∉ vs
  | [], h => ⟨h, by simp⟩
  | v :: vs, h => by
    unfold wipeW at h
    by_cases hi : v = i
    · subst hi
      by_cases hv : v < (wipeW env vs).length
      · rw [List.getElem?_set_self hv] at h; cases h
      · rw [List.getElem?_eq_none (by simpa using hv)] at h; cases h
    · rw [List.getElem?_set_ne hi] at h
      obtain ⟨h1, h2⟩ := wipeW_get h
      exact ⟨h1, by simp only [List.mem_cons, not_or]; exact ⟨fun e => hi e.symm, h2⟩⟩
theorem wipe_at {σ : L2.St} {i : Nat} : ∀ {vs : List Nat}, i ∉ vs → (wipe σ vs)[i]? = σ[i]?
  | [], _ => rfl
  | v :: vs, h => by
    simp only [List.mem_cons, not_or] at h
    unfold wipe
    rw [List.getElem?_set_ne (Ne.symm h.1), wipe_at h.2]
theorem wipe_in {σ : L2.St} {i : Nat} (hl : i < σ.length) : ∀ {vs : List Nat}, i ∈ vs → (wipe σ vs)[i]? = some none
  | v :: vs, h => by
    unfold wipe
    by_cases hv : v = i
    · subst hv; rw [List.getElem?_set_self (by rw [wipe_length]; exact hl)]
    · rw [List.getElem?_set_ne hv]
      rcases List.mem_cons.mp h with e | h
      · exact absurd e.symm hv
      · exact wipe_in hl h
theorem wipe_eq {σ σ2 : L2.St} {vs : List Nat} (hl : σ2.length = (wipe σ vs).length) (h : ∀ j, j ∉ vs → σ2[j]? = (wipe σ vs)[j]?) : wipe σ2 vs = wipe σ vs := by
  refine List.ext_getElem? fun i => ?_
  by_cases hi : i ∈ vs
  · by_cases hb : i < σ.length
    · rw [wipe_in (by rw [hl, wipe_length]; exact hb) hi, wipe_in hb hi]
    · rw [List.getElem?_eq_none (by rw [wipe_length, hl, wipe_length]; omega), List.getElem?_eq_none (by rw [wipe_length]; omega)]
  · rw [wipe_at hi, h i hi]
theorem SR.wipe {K : PySem.W.Frag} {κ : List Addr} {Φ H : Hp} {σ : L2.St} {s : S} (I : SR K κ Φ H σ s) (vs : List Nat) : SR K κ Φ H (L2.wipe σ vs) { s with env := wipeW s.env vs } :=
  ⟨I.sb, I.nd, I.len, I.cells, by rw [wipe_length, wipeW_length]; exact I.slen, fun i w e => by
    obtain ⟨h1, h2⟩ := wipeW_get e
    obtain ⟨v, h3, h4⟩ := I.env i w h1
    exact ⟨v, by rw [wipe_at h2]; exact h3, h4⟩⟩
/-- the slots of before over the cells of behind -/
theorem SR.reenv {K : PySem.W.Frag} {κ κ' : List Addr} {Φ H Φ' H' : Hp} {σ σ' : L2.St} {s s' : S} (I : SR K κ Φ H σ s) (I' : SR K κ' Φ' H' σ' s') (st : Stp κ Φ H κ' Φ' H') : SR K κ' Φ' H' σ { env := s.env, st := s'.st } :=
  ⟨I'.sb, I'.nd, I'.len, I'.cells, I.slen, fun i w e => by
    obtain ⟨v, h1, h2⟩ := I.env i w e
    exact ⟨v, h1, h2.up st⟩⟩
theorem SR.ext {K : PySem.W.Frag} {κ : List Addr} {Φ H Φ' H' : Hp} {σ : L2.St} {s : S} (I : SR K κ Φ H σ s) (e : Sb Φ Φ') (sb : Sb Φ' H') (g : Sb H H') (nf : ∀ a o, Φ' a = some o → Φ a = some o ∨ H a = none) : SR K κ Φ' H' σ s := by
  have st : Stp κ Φ H κ Φ' H' := ⟨e, fun a o h _ => g a o h, ⟨[], by simp, by simp⟩, fun a o h => (nf a o h).elim .inl fun z => .inr (.inl z), fun a o h => by rw [g a o h]; simp⟩
  refine ⟨sb, I.nd, I.len, fun k c a h1 h2 => ((I.cells k c a h1 h2).up e fun o h => ?_).heap fun o h => g a o h, I.slen, fun i w hw => ?_⟩
  · rcases nf a o h with z | z
    · exact z
    · exact absurd z (I.live (List.mem_of_getElem? h2))
  · obtain ⟨v, h1, h2⟩ := I.env i w hw
    exact ⟨v, h1, h2.up st⟩
theorem Stp.ext {κ : List Addr} {Φ H Φ' H' : Hp} (e : Sb Φ Φ') (g : Sb H H') (nf : ∀ a o, Φ' a = some o → Φ a = some o ∨ H a = none) : Stp κ Φ H κ Φ' H' :=
  ⟨e, fun a o h _ => g a o h, ⟨[], by simp, by simp⟩, fun a o h => (nf a o h).elim .inl fun z => .inr (.inl z), fun a o h => by rw [g a o h]; simp⟩
/-- what is nobody's stays so -/
theorem Stp.out {κ κ' : List Addr} {Φ H Φ' H' : Hp} (st : Stp κ Φ H κ' Φ' H') {p : Addr} {o : HO} (h : H p = some o) (hk : p ∉ κ) (hf : Φ p = none) : H' p = some o ∧ p ∉ κ' ∧ Φ' p = none := by
  obtain ⟨n, e, hn⟩ := st.kp
  refine ⟨st.fr p o h hk, fun z => ?_, ?_⟩
  · rw [e] at z
    rcases List.mem_append.mp z with z | z
    · exact hk z
    · rw [hn p z] at h; cases h
  · cases q : Φ' p with
    | none => rfl
    | some u =>
      rcases st.nf p u q with z | z | z
      · rw [hf] at z; cases z
      · rw [h] at z; cases z
      · exact absurd z hk
theorem SR.poke {K : PySem.W.Frag} {κ : List Addr} {Φ H : Hp} {σ : L2.St} {s : S} {p : Addr} {o : HO} (I : SR K κ Φ H σ s) (hk : p ∉ κ) (hf : Φ p = none) : SR K κ Φ (upd H p o) σ s := by
  refine ⟨fun a u h => ?_, I.nd, I.len, fun k c a h1 h2 => (I.cells k c a h1 h2).heap fun u h => ?_, I.slen, I.env⟩
  · have ha : a ≠ p := fun z => by rw [z, hf] at h; cases h
    rw [upd_ne ha]; exact I.sb a u h
  · have ha : a ≠ p := fun z => hk (z ▸ List.mem_of_getElem? h2)
    rw [upd_ne ha]; exact h
theorem Stp.poke {κ κ' : List Addr} {Φ H Φ' H' : Hp} {p : Addr} {o : HO} (st : Stp κ Φ H κ' Φ' H') (hp : H p = none) : Stp κ Φ H κ' Φ' (upd H' p o) :=
  ⟨st.fz, fun a u h hk => by rw [upd_ne (ne_of_none h hp)]; exact st.fr a u h hk, st.kp, st.nf, fun a u h => by rw [upd_ne (ne_of_none h hp)]; exact st.al a u h⟩
def lcGo (src : Src) (bd : W → S → Option S) (mt : S → R Bool) (me : S → R W) (E0 : List (Option W)) : Nat → Nat → List W → S → R (List W)
  | 0, i, acc, s => match src.get s i with
    | some none => .ok acc s
    | _ => .bad
  | n + 1, i, acc, s => match src.get s i with
    | some none => .ok acc s
    | none => .bad
    | some (some d) => match bd d { s with env := E0 } with
      | none => .bad
      | some s1 => (mt s1).then fun b s2 => if b = true then (me s2).then fun w s4 => if acc.length < sizeLine then lcGo src bd mt me E0 n (i + 1) (acc ++ [w]) s4 else .bad
        else lcGo src bd mt me E0 n (i + 1) acc s2
/-- what raises within is not told -/
def noEr {α : Type} (env : List (Option W)) : R α → R α
  | .ok a s => .ok a { s with env := env }
  | _ => .bad
def lcF (src : Src) (bd : W → S → Option S) (mt : S → R Bool) (me : S → R W) (vs : List Nat) (s1 : S) : R (List W) := lcGo src bd mt me (wipeW s1.env vs) (src.len s1) 0 [] s1
def lcM (mi : S → R Src) (bd : W → S → Option S) (mt : S → R Bool) (me : S → R W) (vs : List Nat) : S → R (List W) := fun s => (mi s).then fun src s1 => noEr s1.env (lcF src bd mt me vs s1)
abbrev NoX : WX := fun _ _ _ _ => False
def ZTs (X : Cx) (Wx : WX) (ifs : List Expr) (m : S → R Bool) : Prop := PTs X ifs (tG X.K Wx GB m)
theorem PTs.imp {X : Cx} {e : List Expr} {t t' : TT} (h : PTs X e t) (k : ∀ σ H Q, t' σ H Q → t σ H Q) : PTs X e t' := ⟨fun pins s σ H Q I q => h.run pins s σ H Q I (k σ H Q q)⟩
def yesM : S → R Bool := fun s => .ok true s
theorem zts_nil {Wx : WX} : ZTs X Wx [] yesM := PTs.imp pts_nil fun σ H Q ⟨κ, Φ, s, I, q⟩ => po_ret (w := true) (v := true) q I rfl
theorem zts_one {Wx : WX} {c : Expr} {m : S → R Bool} (h : ZT X Wx c m) : ZTs X Wx [c] m := pts_one h
theorem Src.get_env (src : Src) (s : S) (E : List (Option W)) (i : Nat) : src.get { env := E, st := s.st } i = src.get s i := by cases src <;> rfl
/-- the loop of a comprehension over a list that stands already (base: ahead of the list) -/
theorem lc_loop {K : PySem.W.Frag} {bd : W → S → Option S} {mt : S → R Bool} {me : S → R W} {vs : List Nat} {κb κ : List Addr} {Φb Hb Φ H : Hp} {σ : L2.St} {s s' : S} {J : It} {src : Src} {n : Nat} {acc0 ds : List W} {accV0 : List V} {Fin : Hp → Prop} {P : Addr}
    (hPb : Hb P = none) (st0 : Stp κb Φb Hb κ Φ H) (I : SR K κ Φ H σ s) (hP : H P = some (.lst accV0)) (hr0 : WsAt K κ Φ accV0 acc0) (hk0 : P ∉ κ) (hf0 : Φ P = none) (hJ : ItOk K J κ Φ src) (e : lcGo src bd mt me (wipeW s.env vs) n 0 acc0 s = .ok ds s')
    (hQ : ∀ κ' Φ' H' accV, Stp κb Φb Hb κ' Φ' H' → SR K κ' Φ' H' (L2.wipe σ vs) { s' with env := wipeW s.env vs } → H' P = some (.lst accV) → WsAt K κ' Φ' accV ds → P ∉ κ' → Φ' P = none → Fin H') :
    ∃ W : Nat → Nat → Hp → Prop, (∃ m, W 0 m H) ∧ ∀ i m H, W i m H → (J.stop i H ∧ Fin H) ∨ (J.go i H ∧ ∃ Nx : Hp → Prop, (∀ H', Nx H' → ∃ m', m' < m ∧ W (i + 1) m' H') ∧ ∀ x H', J.yld i H x H' → tTg K bd vs x (L2.wipe σ vs) H' fun σ2 H2 => L2.wipe σ2 vs = L2.wipe σ vs ∧ tG K NoX GB mt σ2 H2 fun b H3 =>
      if b = true then tG K NoX (GW K) me σ2 H3 fun y H4 => ∃ acc, H4 P = some (.lst acc) ∧ acc.length < sizeLine ∧ Nx (upd H4 P (.lst (acc ++ [y]))) else Nx H3) := by
  refine ⟨fun i m H1 => ∃ κ1 Φ1 s1 acc accV, Stp κb Φb Hb κ1 Φ1 H1 ∧ Pre κ κ1 ∧ Sb Φ Φ1 ∧ SR K κ1 Φ1 H1 (L2.wipe σ vs) { s1 with env := wipeW s.env vs } ∧ H1 P = some (.lst accV) ∧ WsAt K κ1 Φ1 accV acc ∧ P ∉ κ1 ∧ Φ1 P = none ∧ lcGo src bd mt me (wipeW s.env vs) m i acc s1 = .ok ds s' ∧ src.le i,
    ⟨n, κ, Φ, s, acc0, accV0, st0, Pre.refl _, Sb.refl _, I.wipe vs, hP, hr0, hk0, hf0, e, src.le0⟩, fun i m H1 hW => ?_⟩
  obtain ⟨κ1, Φ1, s1, acc, accV, st1, pr1, sb1, I1, hD, hr, hk1, hf1, e1, hle⟩ := hW
  obtain ⟨go, stop⟩ := hJ κ1 Φ1 H1 _ _ pr1 sb1 I1 i hle
  have fin : src.get s1 i = some none → R.ok acc s1 = .ok ds s' → (J.stop i H1 ∧ Fin H1) := fun eg e => by
    cases e
    exact ⟨stop ((Src.get_env _ _ _ _).trans eg), hQ κ1 Φ1 H1 accV st1 I1 hD hr hk1 hf1⟩
  cases m with
  | zero =>
    unfold lcGo at e1
    split at e1
    · rename_i eg; exact .inl (fin eg e1)
    · cases e1
  | succ m =>
  unfold lcGo at e1
  cases eg : src.get s1 i with
  | none => rw [eg] at e1; cases e1
  | some o =>
  cases o with
  | none => rw [eg] at e1; exact .inl (fin eg e1)
  | some d =>
    rw [eg] at e1
    dsimp only at e1
    obtain ⟨hgo, hy⟩ := go d ((Src.get_env _ _ _ _).trans eg)
    refine .inr ⟨hgo, fun H' => ∃ m', m' < m + 1 ∧ ∃ κ1 Φ1 s1 acc accV, Stp κb Φb Hb κ1 Φ1 H' ∧ Pre κ κ1 ∧ Sb Φ Φ1 ∧ SR K κ1 Φ1 H' (L2.wipe σ vs) { s1 with env := wipeW s.env vs } ∧ H' P = some (.lst accV) ∧ WsAt K κ1 Φ1 accV acc ∧ P ∉ κ1 ∧ Φ1 P = none ∧ lcGo src bd mt me (wipeW s.env vs) m' (i + 1) acc s1 = .ok ds s' ∧ src.le (i + 1), fun H' h => h, fun x H' hyl => ?_⟩
    obtain ⟨Φ2, q1, q2, q3, q4, rx⟩ := hy x H' hyl
    cases eb : bd d { s1 with env := wipeW s.env vs } with
    | none => rw [eb] at e1; cases e1
    | some sb =>
      rw [eb] at e1
      have e1 : ((mt sb).then fun b s2 => if b = true then (me s2).then fun e s4 => if acc.length < sizeLine then lcGo src bd mt me (wipeW s.env vs) m (i + 1) (acc ++ [e]) s4 else .bad
        else lcGo src bd mt me (wipeW s.env vs) m (i + 1) acc s2) = .ok ds s' := e1
      have st2 : Stp κ1 Φ1 H1 κ1 Φ2 H' := Stp.ext q1 q3 q4
      have I2 : SR K κ1 Φ2 H' (L2.wipe σ vs) { s1 with env := wipeW s.env vs } := I1.ext q1 q2 q3 q4
      obtain ⟨d1, d2, d3⟩ := st2.out hD hk1 hf1
      refine ⟨κ1, Φ2, _, d, I2, rx, sb, eb, fun σ2 l2 o2 Ib => ⟨wipe_eq l2 o2, κ1, Φ2, sb, Ib, ?_⟩⟩
      have back : ∀ {κ3 : List Addr} {Φ3 H3 : Hp} {σ3 : L2.St} {s3 : S}, Stp κ1 Φ2 H' κ3 Φ3 H3 → SR K κ3 Φ3 H3 σ3 s3 → SR K κ3 Φ3 H3 (L2.wipe σ vs) { s3 with env := wipeW s.env vs } := fun st3 I3 => I2.reenv I3 st3
      cases em : mt sb with
      | bad => rw [em] at e1; cases e1
      | er x y => rw [em] at e1; cases e1
      | ok b s2 =>
        rw [em] at e1
        intro b' κ3 Φ3 H3 st3 I3 gb
        obtain rfl : b' = b := gb
        obtain ⟨d4, d5, d6⟩ := st3.out d1 d2 d3
        cases b' with
        | false =>
          show (if false = true then _ else _)
          rw [if_neg Bool.false_ne_true]
          have e1 : lcGo src bd mt me (wipeW s.env vs) m (i + 1) acc s2 = .ok ds s' := e1
          exact ⟨m, Nat.lt_succ_self _, κ3, Φ3, s2, acc, accV, (st1.trans st2).trans st3, fun k a h => st3.pre k a (pr1 k a h), (sb1.trans st2.fz).trans st3.fz, back st3 I3, d4, WsUp hr (st2.trans st3), d5, d6, e1, Src.leS eg⟩
        | true =>
          show (if true = true then _ else _)
          rw [if_pos rfl]
          have e1 : ((me s2).then fun e s4 => if acc.length < sizeLine then lcGo src bd mt me (wipeW s.env vs) m (i + 1) (acc ++ [e]) s4 else .bad) = .ok ds s' := e1
          refine ⟨κ3, Φ3, s2, I3, ?_⟩
          cases en : me s2 with
          | bad => rw [en] at e1; cases e1
          | er x y => rw [en] at e1; cases e1
          | ok w s4 =>
            rw [en] at e1
            intro y κ4 Φ4 H4 st4 I4 gw
            have e1 : (if acc.length < sizeLine then lcGo src bd mt me (wipeW s.env vs) m (i + 1) (acc ++ [w]) s4 else .bad) = .ok ds s' := e1
            split at e1
            · rename_i hz
              obtain ⟨d7, d8, d9⟩ := st4.out d4 d5 d6
              have st35 := st3.trans st4
              have hr5 : WsAt K κ4 Φ4 accV acc := WsUp hr (st2.trans st35)
              exact ⟨accV, d7, by rw [Paired.length hr]; exact hz, m, Nat.lt_succ_self _, κ4, Φ4, s4, acc ++ [w], accV ++ [y], ((st1.trans st2).trans st35).poke hPb, fun k a h => st35.pre k a (pr1 k a h), (sb1.trans st2.fz).trans st35.fz, (back st35 I4).poke d8 d9, upd_same, Paired.snoc hr5 gw, d8, d9, e1, Src.leS eg⟩
            · cases e1
theorem lc_read {K : PySem.W.Frag} {wi : TI} {bd : W → S → Option S} {mt : S → R Bool} {me : S → R W} {vs : List Nat} {κ : List Addr} {Φ H : Hp} {σ : L2.St} {s s' : S} {J : It} {src : Src} {ds : List W} {Q : V → Hp → Prop}
    (I : SR K κ Φ H σ s) (hJ : ItOk K J κ Φ src) (e : lcF src bd mt me vs s = .ok ds s') (hQ : ∀ v κ' Φ' H', Stp κ Φ H κ' Φ' H' → SR K κ' Φ' H' σ { s' with env := s.env } → GN K κ' Φ' H H' v ds → Q v H') :
    ∀ D, H D = none → ∃ W : Nat → Nat → Hp → Prop, (∃ m, W 0 m (upd H D (.lst []))) ∧ ∀ i m H, W i m H → (J.stop i H ∧ Q (.ref D) H) ∨ (J.go i H ∧ ∃ Nx : Hp → Prop, (∀ H', Nx H' → ∃ m', m' < m ∧ W (i + 1) m' H') ∧ ∀ x H', J.yld i H x H' → tTg K bd vs x (L2.wipe σ vs) H' fun σ2 H2 => L2.wipe σ2 vs = L2.wipe σ vs ∧ tG K NoX GB mt σ2 H2 fun b H3 =>
      if b = true then tG K NoX (GW K) me σ2 H3 fun y H4 => ∃ acc, H4 D = some (.lst acc) ∧ acc.length < sizeLine ∧ Nx (upd H4 D (.lst (acc ++ [y]))) else Nx H3) := by
  intro P hP
  obtain ⟨hPf, hPk⟩ := I.fresh hP
  exact lc_loop (κb := κ) (Φb := Φ) (Hb := H) (Fin := fun H => Q (.ref P) H) hP ((Stp.refl ..).poke hP) (I.poke hPk hPf) upd_same .nil hPk hPf hJ e fun κ' Φ' H' accV st' I' h1 h2 h3 h4 =>
    hQ _ κ' Φ' H' st' (I.reenv (s' := { env := wipeW s.env vs, st := s'.st }) I' st') ⟨P, accV, rfl, hP, h4, h3, h1, h2⟩
theorem zn_lc {Wx : WX} {elt tg iter : Expr} {ifs : List Expr} {scope : Scope} {own : List (Str × Nat)} {pos : Pos} {mi : S → R Src} {bd : W → S → Option S} {mt : S → R Bool} {me : S → R W} (hc : X.calm = true) (hN : X.N.Nodup) (hi : ZI X Wx tg iter mi) (ok : BlkOk X.N X.env.scope scope own)
    (hg : ∀ (s : Shared) (H : Hp) (C : Addr) (cl : List (Str × Addr)) (fp : List Addr), ZG (X.blk s H scope (compEnvC scope cl C X.env) fp) tg bd (own.map (·.2))) (ht : ∀ (s : Shared) (H : Hp) (C : Addr) (cl : List (Str × Addr)) (fp : List Addr), ZTs (X.blk s H scope (compEnvC scope cl C X.env) fp) NoX ifs mt)
    (he : ∀ (s : Shared) (H : Hp) (C : Addr) (cl : List (Str × Addr)) (fp : List Addr), ZE (X.blk s H scope (compEnvC scope cl C X.env) fp) NoX elt me) (hs : ∀ x, foldedSetIterable iter X.env x = pure x := by intro _; rfl) :
    ZN X Wx (.ListComp elt [⟨tg, iter, ifs, 0⟩] scope pos) (lcM mi bd mt me (own.map (·.2))) :=
  PE.imp (pe_lc (g := tTg X.K bd (own.map fun p : Str × Nat => p.2)) (tt := tG X.K NoX GB mt) (te := tG X.K NoX (GW X.K) me) hc hN hi ok hg ht he hs) fun σ H Q ⟨κ, Φ, s, I, q⟩ => by
    refine ⟨κ, Φ, s, I, (Po.seqN (G := GI X.K) (f := fun src s1 => noEr s1.env (lcF src bd mt me (own.map (·.2)) s1)) q).weak fun J H1 h1 => ?_⟩
    obtain ⟨κ1, Φ1, s1, items, I1, st, hJ, q1⟩ := h1
    have q1 : Po X.K Wx (GN X.K) κ1 Φ1 H1 σ (noEr s1.env (lcF items bd mt me (own.map (·.2)) s1)) Q := q1
    cases e : lcF items bd mt me (own.map (·.2)) s1 with
    | bad => rw [e] at q1; exact q1.elim
    | er x y => rw [e] at q1; exact q1.elim
    | ok ds s' =>
      rw [e] at q1
      exact lc_read (wi := fun _ _ _ => True) I1 hJ e q1
end
end Z
namespace Z
open PySem PySem.Spec PyProof.Rows L2
section
variable {X : Cx} 
def lc2Go (src : Src) (bd : W → S → Option S) (mt : S → R Bool) (mi1 : S → R Src) (bd1 : W → S → Option S) (mt1 : S → R Bool) (me : S → R W) (vs1 : List Nat) (E0 : List (Option W)) : Nat → Nat → List W → S → R (List W)
  | 0, i, acc, s => match src.get s i with
    | some none => .ok acc s
    | _ => .bad
  | n + 1, i, acc, s => match src.get s i with
    | some none => .ok acc s
    | none => .bad
    | some (some d) => match bd d { s with env := E0 } with
      | none => .bad
      | some s1 => (mt s1).then fun b s2 => if b = true then (mi1 s2).then fun src1 s3 => (lcGo src1 bd1 mt1 me (wipeW s3.env vs1) (src1.len s3) 0 acc s3).then fun acc' s4 => lc2Go src bd mt mi1 bd1 mt1 me vs1 E0 n (i + 1) acc' s4
        else lc2Go src bd mt mi1 bd1 mt1 me vs1 E0 n (i + 1) acc s2
def lc2F (src : Src) (bd : W → S → Option S) (mt : S → R Bool) (mi1 : S → R Src) (bd1 : W → S → Option S) (mt1 : S → R Bool) (me : S → R W) (vs vs1 : List Nat) (s1 : S) : R (List W) := lc2Go src bd mt mi1 bd1 mt1 me vs1 (wipeW s1.env vs) (src.len s1) 0 [] s1
def lc2M (mi : S → R Src) (bd : W → S → Option S) (mt : S → R Bool) (mi1 : S → R Src) (bd1 : W → S → Option S) (mt1 : S → R Bool) (me : S → R W) (vs vs1 : List Nat) : S → R (List W) :=
  fun s => (mi s).then fun src s1 => noEr s1.env (lc2F src bd mt mi1 bd1 mt1 me vs vs1 s1)
theorem zn_lc2 {Wx : WX} {elt tg iter tg1 iter1 : Expr} {ifs ifs1 : List Expr} {scope : Scope} {own : List (Str × Nat)} {vs1 : List Nat} {pos : Pos} {mi mi1 : S → R Src} {bd bd1 : W → S → Option S} {mt mt1 : S → R Bool} {me : S → R W} (hc : X.calm = true) (hN : X.N.Nodup) (hi : ZI X Wx tg iter mi) (ok : BlkOk X.N X.env.scope scope own) (hv : ∀ i ∈ vs1, i ∈ own.map (·.2))
    (hg : ∀ (s : Shared) (H : Hp) (C : Addr) (cl : List (Str × Addr)) (fp : List Addr), ZG (X.blk s H scope (compEnvC scope cl C X.env) fp) tg bd (own.map (·.2))) (ht : ∀ (s : Shared) (H : Hp) (C : Addr) (cl : List (Str × Addr)) (fp : List Addr), ZTs (X.blk s H scope (compEnvC scope cl C X.env) fp) NoX ifs mt)
    (hi1 : ∀ (s : Shared) (H : Hp) (C : Addr) (cl : List (Str × Addr)) (fp : List Addr), ZI (X.blk s H scope (compEnvC scope cl C X.env) fp) NoX tg1 iter1 mi1)
    (hg1 : ∀ (s : Shared) (H : Hp) (C : Addr) (cl : List (Str × Addr)) (fp : List Addr), ZG (X.blk s H scope (compEnvC scope cl C X.env) fp) tg1 bd1 vs1) (ht1 : ∀ (s : Shared) (H : Hp) (C : Addr) (cl : List (Str × Addr)) (fp : List Addr), ZTs (X.blk s H scope (compEnvC scope cl C X.env) fp) NoX ifs1 mt1)
    (he : ∀ (s : Shared) (H : Hp) (C : Addr) (cl : List (Str × Addr)) (fp : List Addr), ZE (X.blk s H scope (compEnvC scope cl C X.env) fp) NoX elt me) (hs : ∀ x, foldedSetIterable iter X.env x = pure x := by intro _; rfl) (hs1 : ∀ env x, foldedSetIterable iter1 env x = pure x := by intro _ _; rfl) :
    ZN X Wx (.ListComp elt [⟨tg, iter, ifs, 0⟩, ⟨tg1, iter1, ifs1, 0⟩] scope pos) (lc2M mi bd mt mi1 bd1 mt1 me (own.map (·.2)) vs1) :=
  PE.imp (pe_lc2 (g := tTg X.K bd (own.map fun p : Str × Nat => p.2)) (tt := tG X.K NoX GB mt) (wi1 := tG X.K NoX (GI X.K) mi1) (g1 := tTg X.K bd1 vs1) (tt1 := tG X.K NoX GB mt1) (te := tG X.K NoX (GW X.K) me) hc hN hi ok hv hg ht hi1 hg1 ht1 he hs hs1) fun σ H0 Q ⟨κ0, Φ0, s0, I0, q0⟩ => by
    refine ⟨κ0, Φ0, s0, I0, (Po.seqN (G := GI X.K) (f := fun src s1 => noEr s1.env (lc2F src bd mt mi1 bd1 mt1 me (own.map (·.2)) vs1 s1)) q0).weak fun J H h1 => ?_⟩
    obtain ⟨κ, Φ, s, src, I, st, hJ, q⟩ := h1
    have q : Po X.K Wx (GN X.K) κ Φ H σ (noEr s.env (lc2F src bd mt mi1 bd1 mt1 me (own.map (·.2)) vs1 s)) Q := q
    generalize own.map (·.2) = vs at hv q ⊢
    cases e : lc2F src bd mt mi1 bd1 mt1 me vs vs1 s with
    | bad => rw [e] at q; exact q.elim
    | er x y => rw [e] at q; exact q.elim
    | ok ds s' =>
    rw [e] at q
    intro P hP
    obtain ⟨hPf, hPk⟩ := I.fresh hP
    refine ⟨fun i m H1 => ∃ κ1 Φ1 s1 acc accV, Stp κ Φ H κ1 Φ1 H1 ∧ SR X.K κ1 Φ1 H1 (L2.wipe σ vs) { s1 with env := wipeW s.env vs } ∧ H1 P = some (.lst accV) ∧ WsAt X.K κ1 Φ1 accV acc ∧ P ∉ κ1 ∧ Φ1 P = none ∧ lc2Go src bd mt mi1 bd1 mt1 me vs1 (wipeW s.env vs) m i acc s1 = .ok ds s' ∧ src.le i,
      ⟨src.len s, κ, Φ, s, [], [], (Stp.refl ..).poke hP, (I.wipe vs).poke hPk hPf, upd_same, .nil, hPk, hPf, e, src.le0⟩, fun i m H1 hW => ?_⟩
    obtain ⟨κ1, Φ1, s1, acc, accV, st1, I1, hD, hr, hk1, hf1, e1, hle⟩ := hW
    obtain ⟨go, stop⟩ := hJ κ1 Φ1 H1 _ _ st1.pre st1.fz I1 i hle
    have fin : src.get s1 i = some none → R.ok acc s1 = .ok ds s' → (J.stop i H1 ∧ Q (.ref P) H1) := fun eg e => by
      cases e
      exact ⟨stop ((Src.get_env _ _ _ _).trans eg), q (.ref P) κ1 Φ1 H1 st1 (I.reenv (s' := { env := wipeW s.env vs, st := s'.st }) I1 st1) ⟨P, accV, rfl, hP, hf1, hk1, hD, hr⟩⟩
    cases m with
    | zero =>
      unfold lc2Go at e1
      split at e1
      · rename_i eg; exact .inl (fin eg e1)
      · cases e1
    | succ m =>
    unfold lc2Go at e1
    cases eg : src.get s1 i with
    | none => rw [eg] at e1; cases e1
    | some o =>
    cases o with
    | none => rw [eg] at e1; exact .inl (fin eg e1)
    | some d =>
      rw [eg] at e1
      dsimp only at e1
      obtain ⟨hgo, hy⟩ := go d ((Src.get_env _ _ _ _).trans eg)
      refine .inr ⟨hgo, fun H' => ∃ m', m' < m + 1 ∧ ∃ κ1 Φ1 s1 acc accV, Stp κ Φ H κ1 Φ1 H' ∧ SR X.K κ1 Φ1 H' (L2.wipe σ vs) { s1 with env := wipeW s.env vs } ∧ H' P = some (.lst accV) ∧ WsAt X.K κ1 Φ1 accV acc ∧ P ∉ κ1 ∧ Φ1 P = none ∧ lc2Go src bd mt mi1 bd1 mt1 me vs1 (wipeW s.env vs) m' (i + 1) acc s1 = .ok ds s' ∧ src.le (i + 1), fun H' h => h, fun x H' hyl => ?_⟩
      obtain ⟨Φ2, q1, q2, q3, q4, rx⟩ := hy x H' hyl
      cases eb : bd d { s1 with env := wipeW s.env vs } with
      | none => rw [eb] at e1; cases e1
      | some sb =>
        rw [eb] at e1
        have e1 : ((mt sb).then fun b s2 => if b = true then (mi1 s2).then fun src1 s3 => (lcGo src1 bd1 mt1 me (wipeW s3.env vs1) (src1.len s3) 0 acc s3).then fun acc' s4 => lc2Go src bd mt mi1 bd1 mt1 me vs1 (wipeW s.env vs) m (i + 1) acc' s4
          else lc2Go src bd mt mi1 bd1 mt1 me vs1 (wipeW s.env vs) m (i + 1) acc s2) = .ok ds s' := e1
        have st2 : Stp κ1 Φ1 H1 κ1 Φ2 H' := Stp.ext q1 q3 q4
        have I2 : SR X.K κ1 Φ2 H' (L2.wipe σ vs) { s1 with env := wipeW s.env vs } := I1.ext q1 q2 q3 q4
        obtain ⟨d1, d2, d3⟩ := st2.out hD hk1 hf1
        refine ⟨κ1, Φ2, _, d, I2, rx, sb, eb, fun σ2 l2 o2 Ib => ⟨wipe_eq l2 o2, κ1, Φ2, sb, Ib, ?_⟩⟩
        have back : ∀ {κ3 : List Addr} {Φ3 H3 : Hp} {σ3 : L2.St} {s3 : S}, Stp κ Φ H κ3 Φ3 H3 → SR X.K κ3 Φ3 H3 σ3 s3 → SR X.K κ3 Φ3 H3 (L2.wipe σ vs) { s3 with env := wipeW s.env vs } := fun st3 I3 => (I.wipe vs).reenv I3 st3
        have st12 := st1.trans st2
        cases em : mt sb with
        | bad => rw [em] at e1; cases e1
        | er x y => rw [em] at e1; cases e1
        | ok b s2 =>
          rw [em] at e1
          intro b' κ3 Φ3 H3 st3 I3 gb
          obtain rfl : b' = b := gb
          obtain ⟨d4, d5, d6⟩ := st3.out d1 d2 d3
          cases b' with
          | false =>
            show (if false = true then _ else _)
            rw [if_neg Bool.false_ne_true]
            have e1 : lc2Go src bd mt mi1 bd1 mt1 me vs1 (wipeW s.env vs) m (i + 1) acc s2 = .ok ds s' := e1
            exact ⟨m, Nat.lt_succ_self _, κ3, Φ3, s2, acc, accV, st12.trans st3, back (st12.trans st3) I3, d4, WsUp hr (st2.trans st3), d5, d6, e1, Src.leS eg⟩
          | true =>
            show (if true = true then _ else _)
            rw [if_pos rfl]
            have e1 : ((mi1 s2).then fun src1 s3 => (lcGo src1 bd1 mt1 me (wipeW s3.env vs1) (src1.len s3) 0 acc s3).then fun acc' s4 => lc2Go src bd mt mi1 bd1 mt1 me vs1 (wipeW s.env vs) m (i + 1) acc' s4) = .ok ds s' := e1
            refine ⟨κ3, Φ3, s2, I3, ?_⟩
            cases ei : mi1 s2 with
            | bad => rw [ei] at e1; cases e1
            | er x y => rw [ei] at e1; cases e1
            | ok src1 s3 =>
              rw [ei] at e1
              intro J1 κ4 Φ4 H4 st4 I4 hJ1
              have e1 : ((lcGo src1 bd1 mt1 me (wipeW s3.env vs1) (src1.len s3) 0 acc s3).then fun acc' s4 => lc2Go src bd mt mi1 bd1 mt1 me vs1 (wipeW s.env vs) m (i + 1) acc' s4) = .ok ds s' := e1
              cases eg2 : lcGo src1 bd1 mt1 me (wipeW s3.env vs1) (src1.len s3) 0 acc s3 with
              | bad => rw [eg2] at e1; cases e1
              | er x y => rw [eg2] at e1; cases e1
              | ok acc' s4 =>
                rw [eg2] at e1
                have e1 : lc2Go src bd mt mi1 bd1 mt1 me vs1 (wipeW s.env vs) m (i + 1) acc' s4 = .ok ds s' := e1
                obtain ⟨d7, d8, d9⟩ := st4.out d4 d5 d6
                refine lc_loop hP ((st12.trans st3).trans st4) I4 d7 (WsUp hr ((st2.trans st3).trans st4)) d8 d9 hJ1 eg2 fun κ5 Φ5 H5 accV5 st5 I5 f1 f2 f3 f4 => ?_
                exact ⟨m, Nat.lt_succ_self _, κ5, Φ5, s4, acc', accV5, st5, back (s3 := { s4 with env := wipeW s3.env vs1 }) st5 I5, f1, f2, f3, f4, e1, Src.leS eg⟩
end
end Z
namespace Z
open PySem PySem.Spec PyProof.Rows L2
/-! ### statements -/
inductive RS where
  | bad | nx (s : S) | rt (w : W) (s : S) | bk (s : S) | ct (s : S) | er (e : Err) (s : S)
def R.toS {α : Type} (r : R α) (f : α → S → RS) : RS :=
  match r with
  | .bad => .bad
  | .ok a s => f a s
  | .er e s => .er e s
section
variable (K : PySem.W.Frag) (Wx : WX)
def PoS (κ : List Addr) (Φ H : Hp) (r : RS) (D : Ends) : Prop :=
  match r with
  | .bad => False
  | .nx s' => ∀ σ' κ' Φ' H', Stp κ Φ H κ' Φ' H' → SR K κ' Φ' H' σ' s' → D.nx σ' H'
  | .bk s' => ∀ σ' κ' Φ' H', Stp κ Φ H κ' Φ' H' → SR K κ' Φ' H' σ' s' → D.bk σ' H'
  | .ct s' => ∀ σ' κ' Φ' H', Stp κ Φ H κ' Φ' H' → SR K κ' Φ' H' σ' s' → D.ct σ' H'
  | .rt w s' => ∀ v σ' κ' Φ' H', Stp κ Φ H κ' Φ' H' → SR K κ' Φ' H' σ' s' → WAt K κ' Φ' v w → D.rt v H'
  | .er e s' => ∀ dd σ' κ' Φ' H', Stp κ Φ H κ' Φ' H' → SR K κ' Φ' H' σ' s' → ErrAt K κ' Φ' H' e dd → Wx (.ref e.cls) (some dd) σ' H'
def tZ (c : S → RS) : TS := fun D σ H => ∃ κ Φ s, SR K κ Φ H σ s ∧ PoS K Wx κ Φ H (c s) D
end
def ZS (X : Cx) (Wx : WX) (st : Stmt) (c : S → RS) : Prop := PS X st (tZ X.K Wx c)
def ZSs (X : Cx) (Wx : WX) (st : List Stmt) (c : S → RS) : Prop := PSs X st (tZ X.K Wx c)
section
variable {K : PySem.W.Frag} {Wx : WX} {κ κ1 : List Addr} {Φ H Φ1 H1 : Hp} {σ : L2.St} {r : RS} {D : Ends}
theorem PoS.step (h : PoS K Wx κ Φ H r D) (st : Stp κ Φ H κ1 Φ1 H1) : PoS K Wx κ1 Φ1 H1 r D := by
  cases r with
  | bad => exact h
  | nx s => exact fun σ' κ' Φ' H' a => h σ' κ' Φ' H' (st.trans a)
  | bk s => exact fun σ' κ' Φ' H' a => h σ' κ' Φ' H' (st.trans a)
  | ct s => exact fun σ' κ' Φ' H' a => h σ' κ' Φ' H' (st.trans a)
  | rt w s => exact fun v σ' κ' Φ' H' a => h v σ' κ' Φ' H' (st.trans a)
  | er e s => exact fun dd σ' κ' Φ' H' a => h dd σ' κ' Φ' H' (st.trans a)
/-- an expression, then what follows -/
theorem Po.toS {α β : Type} {G : List Addr → Hp → Hp → Hp → β → α → Prop} {m : R α} {f : α → S → RS} (h : PoS K Wx κ Φ H (m.toS f) D) :
    Po K Wx G κ Φ H σ m (fun v H1 => ∃ κ1 Φ1 s1 w, SR K κ1 Φ1 H1 σ s1 ∧ Stp κ Φ H κ1 Φ1 H1 ∧ G κ1 Φ1 H H1 v w ∧ PoS K Wx κ1 Φ1 H1 (f w s1) D) := by
  cases m with
  | bad => exact h
  | er e s => exact fun dd κ' Φ' H' st I ea => h dd σ κ' Φ' H' st I ea
  | ok a s => exact fun v κ1 Φ1 H1 st I g => ⟨κ1, Φ1, s, a, I, st, g, PoS.step (show PoS K Wx κ Φ H (f a s) D from h) st⟩
theorem pos_nx {s : S} (h : PoS K Wx κ Φ H (.nx s) D) (I : SR K κ Φ H σ s) : D.nx σ H := h σ κ Φ H (Stp.refl ..) I
end
section
variable {X : Cx} {Wx : WX}
def nxC : S → RS := fun s => .nx s
def seqC (c c' : S → RS) : S → RS := fun s => match c s with
  | .nx s1 => c' s1
  | r => r
theorem zss_nil : ZSs X Wx [] nxC := PSs.imp pss_nil fun D σ H ⟨κ, Φ, s, I, q⟩ => pos_nx q I
theorem zss_cons {st : Stmt} {rest : List Stmt} {c c' : S → RS} (h : ZS X Wx st c) (h' : ZSs X Wx rest c') : ZSs X Wx (st :: rest) (seqC c c') :=
  PSs.imp (pss_cons h h') fun D σ H ⟨κ, Φ, s, I, q⟩ => by
    refine ⟨κ, Φ, s, I, ?_⟩
    unfold seqC at q
    cases e : c s with
    | nx s1 => rw [e] at q; exact fun σ' κ' Φ' H' st I' => ⟨κ', Φ', s1, I', PoS.step q st⟩
    | bad => rw [e] at q; exact q
    | bk s1 => rw [e] at q; exact q
    | ct s1 => rw [e] at q; exact q
    | rt w s1 => rw [e] at q; exact q
    | er x s1 => rw [e] at q; exact q
theorem zss_one {st : Stmt} {c : S → RS} (h : ZS X Wx st c) : ZSs X Wx [st] c := pss_one h
def badC : S → RS := fun _ => .bad
theorem zs_never {st : Stmt} : ZS X Wx st badC := PS.imp ps_never fun D σ H ⟨κ, Φ, s, I, q⟩ => q
theorem zss_never {st : List Stmt} : ZSs X Wx st badC := PSs.imp pss_never fun D σ H ⟨κ, Φ, s, I, q⟩ => q
theorem zs_pass {pos : Pos} : ZS X Wx (.Pass pos) nxC := PS.imp ps_pass fun D σ H ⟨κ, Φ, s, I, q⟩ => pos_nx q I
theorem zs_break {pos : Pos} : ZS X Wx (.Break pos) (fun s => .bk s) := PS.imp ps_break fun D σ H ⟨κ, Φ, s, I, q⟩ => q σ κ Φ H (Stp.refl ..) I
theorem zs_cont {pos : Pos} : ZS X Wx (.Continue pos) (fun s => .ct s) := PS.imp ps_continue fun D σ H ⟨κ, Φ, s, I, q⟩ => q σ κ Φ H (Stp.refl ..) I
variable {e : Expr} {m : S → R W} {pos : Pos}
def drC (m : S → R W) : S → RS := fun s => (m s).toS fun _ s1 => .nx s1
theorem zs_expr (h : ZE X Wx e m) (hs : swapsWith e none pos.line X.env = pure false := by rfl) : ZS X Wx (.Expr e pos) (drC m) :=
  PS.imp (ps_expr h hs) fun D σ H ⟨κ, Φ, s, I, q⟩ => ⟨κ, Φ, s, I, (Po.toS (f := fun _ s1 => .nx s1) q).weak fun v H1 ⟨κ1, Φ1, s1, w, I1, st, g, q1⟩ => pos_nx q1 I1⟩
def rtC (m : S → R W) : S → RS := fun s => (m s).toS fun w s1 => .rt w s1
theorem zs_ret (h : ZE X Wx e m) : ZS X Wx (.Return (some e) pos) (rtC m) :=
  PS.imp (ps_ret h) fun D σ H ⟨κ, Φ, s, I, q⟩ => ⟨κ, Φ, s, I, (Po.toS (f := fun w s1 => .rt w s1) q).weak fun v H1 ⟨κ1, Φ1, s1, w, I1, st, g, q1⟩ => q1 v σ κ1 Φ1 H1 (Stp.refl ..) I1 g⟩
theorem zs_retN : ZS X Wx (.Return none pos) (fun s => .rt (.fr .non) s) :=
  PS.imp ps_retN fun D σ H ⟨κ, Φ, s, I, q⟩ => q .non σ κ Φ H (Stp.refl ..) I Rep.non
def put (s : S) (i : Nat) (w : W) : S := { s with env := s.env.set i (some w) }
def setC (i : Nat) (m : S → R W) : S → RS := fun s => (m s).toS fun w s1 => .nx (put s1 i w)
theorem zs_set {i : Nat} {x : Str} {pos' : Pos} (hN : X.N.Nodup) (hi : X.N[i]? = some x) (hx : Loc X.env.scope x) (h : ZE X Wx e m) (hs : swapsWith e (some (.Name x pos')) pos.line X.env = pure false := by rfl) (hf : X.fn x = true ∨ X.env.scope.names.lookup x = some .local := by first | exact .inl rfl | exact .inr rfl | assumption) :
    ZS X Wx (.Assign [.Name x pos'] e pos) (setC i m) :=
  PS.imp (ps_set hN hi hx h hs hf) fun D σ H ⟨κ, Φ, s, I, q⟩ => ⟨κ, Φ, s, I, (Po.toS (f := fun w s1 => .nx (put s1 i w)) q).weak fun v H1 ⟨κ1, Φ1, s1, w, I1, st, g, q1⟩ => pos_nx q1 (I1.set g)⟩
/-- name = [..], a comprehension on the name's line: kept frozen, or as a cell -/
theorem lc_imp {elt tg iter : Expr} {mi : S → R Src} {bd : W → S → Option S} {mt : S → R Bool} {me : S → R W} {vs : List Nat} {σ : L2.St} {H : Hp} {Q : VK} (h : tG X.K Wx (GN X.K) (lcM mi bd mt me vs) σ H Q) :
    tLc (tG X.K Wx (GI X.K) mi) (tTg X.K bd vs) (tG X.K NoX GB mt) (tG X.K NoX (GW X.K) me) vs σ H Q := by
  obtain ⟨κ, Φ, s, I, q⟩ := h
  refine ⟨κ, Φ, s, I, (Po.seqN (G := GI X.K) (f := fun items s1 => noEr s1.env (lcF items bd mt me vs s1)) q).weak fun J H1 h1 => ?_⟩
  obtain ⟨κ1, Φ1, s1, items, I1, st, hJ, q1⟩ := h1
  have q1 : Po X.K Wx (GN X.K) κ1 Φ1 H1 σ (noEr s1.env (lcF items bd mt me vs s1)) Q := q1
  cases e : lcF items bd mt me vs s1 with
  | bad => rw [e] at q1; exact q1.elim
  | er x y => rw [e] at q1; exact q1.elim
  | ok ds s' =>
    rw [e] at q1
    exact lc_read (wi := fun _ _ _ => True) I1 hJ e q1
section
variable {i : Nat} {y : Str} {py : Pos} {elt tg iter : Expr} {ifs : List Expr} {scope : Scope} {own : List (Str × Nat)} {spos : Pos} {mi : S → R Src} {bd : W → S → Option S} {mt : S → R Bool} {me : S → R W}
theorem zs_setLc (hc : X.calm = true) (hN : X.N.Nodup) (hy : X.N[i]? = some y) (hyl : X.env.scope.names.lookup y = some .local)
    (hsw : swapsWith (.ListComp elt [⟨tg, iter, ifs, 0⟩] scope pos) (some (.Name y py)) spos.line X.env = pure true) (hi : ZI X Wx tg iter mi) (ok : BlkOk X.N X.env.scope scope own)
    (hg : ∀ (s : Shared) (H : Hp) (C : Addr) (cl : List (Str × Addr)) (fp : List Addr), ZG (X.blk s H scope (compEnvC scope cl C X.env) fp) tg bd (own.map (·.2))) (ht : ∀ (s : Shared) (H : Hp) (C : Addr) (cl : List (Str × Addr)) (fp : List Addr), ZTs (X.blk s H scope (compEnvC scope cl C X.env) fp) NoX ifs mt)
    (he : ∀ (s : Shared) (H : Hp) (C : Addr) (cl : List (Str × Addr)) (fp : List Addr), ZE (X.blk s H scope (compEnvC scope cl C X.env) fp) NoX elt me) (hs : ∀ x, foldedSetIterable iter X.env x = pure x := by intro _; rfl) :
    ZS X Wx (.Assign [.Name y py] (.ListComp elt [⟨tg, iter, ifs, 0⟩] scope pos) spos) (setC i (frN (lcM mi bd mt me (own.map (·.2))))) :=
  PS.imp (ps_setLc (g := tTg X.K bd (own.map fun p : Str × Nat => p.2)) (tt := tG X.K NoX GB mt) (te := tG X.K NoX (GW X.K) me) hc hN hy hyl hsw hi ok hg ht he hs) fun D σ H ⟨κ, Φ, s, I, q⟩ => by
    have q2 := Po.toS (σ := σ) (G := GW X.K) (f := fun w s1 => .nx (put s1 i w)) q
    have q3 := po_frN (r := lcM mi bd mt me (own.map (·.2)) s) q2
    exact lc_imp (elt := elt) (tg := tg) (iter := iter) ⟨κ, Φ, s, I, q3.weak fun v H1 ⟨κ1, Φ1, s1, w, I1, st, g, q1⟩ => pos_nx q1 (I1.set g)⟩
theorem zs_setLcL (hc : X.calm = true) (hN : X.N.Nodup) (hy : X.N[i]? = some y) (hyl : X.env.scope.names.lookup y = some .local)
    (hsw : swapsWith (.ListComp elt [⟨tg, iter, ifs, 0⟩] scope pos) (some (.Name y py)) spos.line X.env = pure true) (hi : ZI X Wx tg iter mi) (ok : BlkOk X.N X.env.scope scope own)
    (hg : ∀ (s : Shared) (H : Hp) (C : Addr) (cl : List (Str × Addr)) (fp : List Addr), ZG (X.blk s H scope (compEnvC scope cl C X.env) fp) tg bd (own.map (·.2))) (ht : ∀ (s : Shared) (H : Hp) (C : Addr) (cl : List (Str × Addr)) (fp : List Addr), ZTs (X.blk s H scope (compEnvC scope cl C X.env) fp) NoX ifs mt)
    (he : ∀ (s : Shared) (H : Hp) (C : Addr) (cl : List (Str × Addr)) (fp : List Addr), ZE (X.blk s H scope (compEnvC scope cl C X.env) fp) NoX elt me) (hs : ∀ x, foldedSetIterable iter X.env x = pure x := by intro _; rfl) :
    ZS X Wx (.Assign [.Name y py] (.ListComp elt [⟨tg, iter, ifs, 0⟩] scope pos) spos) (setC i (loN (lcM mi bd mt me (own.map (·.2))))) :=
  PS.imp (ps_setLc (g := tTg X.K bd (own.map fun p : Str × Nat => p.2)) (tt := tG X.K NoX GB mt) (te := tG X.K NoX (GW X.K) me) hc hN hy hyl hsw hi ok hg ht he hs) fun D σ H ⟨κ, Φ, s, I, q⟩ => by
    have q2 := Po.toS (σ := σ) (G := GW X.K) (f := fun w s1 => .nx (put s1 i w)) q
    have q3 := po_loN (r := lcM mi bd mt me (own.map (·.2)) s) q2
    exact lc_imp (elt := elt) (tg := tg) (iter := iter) ⟨κ, Φ, s, I, q3.weak fun v H1 ⟨κ1, Φ1, s1, w, I1, st, g, q1⟩ => pos_nx q1 (I1.set g)⟩
end
/-- targets = value -/
def asgC (m : S → R W) (bd : W → S → Option S) : S → RS := fun s => (m s).toS fun d s1 => match bd d s1 with
  | some s2 => .nx s2
  | none => .bad
theorem zs_asg {tg : Expr} {bd : W → S → Option S} {vs : List Nat} (h : ZE X Wx e m) (hg : ZG X tg bd vs) (hs : swapsWithSole [tg] e pos.line X.env = pure false := by rfl) (hw : swappedStores [tg] e X.env = pure none := by rfl)
    (h1 : (assignEach [tg] X.env).map (·.2) = [assign tg X.env] := by rfl) : ZS X Wx (.Assign [tg] e pos) (asgC m bd) :=
  PS.imp (ps_asg h hg hs hw h1) fun D σ H ⟨κ, Φ, s, I, q⟩ => ⟨κ, Φ, s, I, (Po.toS (G := GW X.K) (f := fun d s1 => match bd d s1 with | some s2 => .nx s2 | none => .bad) q).weak fun v H1 ⟨κ1, Φ1, s1, d, I1, st, g, q1⟩ => by
    cases eb : bd d s1 with
    | none => rw [eb] at q1; exact q1.elim
    | some s2 => rw [eb] at q1; exact ⟨κ1, Φ1, s1, d, I1, g, s2, eb, fun σ' l o I' => pos_nx q1 I'⟩⟩
def parC (i j : Nat) (ms : S → R (List W)) : S → RS := fun s => (ms s).toS fun ws s1 => match ws with
  | [a, b] => .nx (put (put s1 i a) j b)
  | _ => .bad
theorem zs_par {i j : Nat} {x y : Str} {a b : Expr} {ms : S → R (List W)} {px py pt : Pos} {kt k2 pt2} (hc : X.calm = true) (hN : X.N.Nodup) (hi : X.N[i]? = some x) (hj : X.N[j]? = some y) (hij : i ≠ j)
    (hx : X.env.scope.names.lookup x = some .local) (hy : X.env.scope.names.lookup y = some .local) (ha : ZA X Wx [a, b] ms)
    (hw : swappedStores [.Tuple [.Name x px, .Name y py] kt pt] (.Tuple [a, b] k2 pt2) X.env = pure (some [x, y]) := by rfl)
    (hs : swapsWithSole [.Tuple [.Name x px, .Name y py] kt pt] (.Tuple [a, b] k2 pt2) pos.line X.env = pure false := by rfl) :
    ZS X Wx (.Assign [.Tuple [.Name x px, .Name y py] kt pt] (.Tuple [a, b] k2 pt2) pos) (parC i j ms) :=
  PS.imp (ps_par hc hN hi hj hij hx hy ha hw hs) fun D σ H ⟨κ, Φ, s, I, q⟩ => ⟨κ, Φ, s, I, (Po.toS (G := GA X.K) (f := fun ws s1 => match ws with | [a, b] => .nx (put (put s1 i a) j b) | _ => .bad) q).weak fun vs H1 ⟨κ1, Φ1, s1, ws, I1, st, g, q1⟩ => by
    cases g with
    | nil => exact q1.elim
    | cons a g => cases g with
      | nil => exact q1.elim
      | cons b g => cases g with
        | nil => exact ⟨_, _, rfl, pos_nx q1 ((I1.set a).set b)⟩
        | cons c g => exact q1.elim⟩
def ifC (mc : S → R Bool) (c c' : S → RS) : S → RS := fun s => (mc s).toS fun b s1 => if b = true then c s1 else c' s1
theorem zs_if {c : Expr} {a b : List Stmt} {mc : S → R Bool} {ca cb : S → RS} (hc : ZT X Wx c mc) (ha : ZSs X Wx a ca) (hb : ZSs X Wx b cb) : ZS X Wx (.If c a b pos) (ifC mc ca cb) :=
  PS.imp (ps_if hc ha hb) fun D σ H ⟨κ, Φ, s, I, q⟩ => ⟨κ, Φ, s, I, (Po.toS (G := GB) (f := fun b s1 => if b = true then ca s1 else cb s1) q).weak fun v H1 ⟨κ1, Φ1, s1, w, I1, st, g, q1⟩ => by
    obtain rfl : v = w := g
    cases v with
    | true => exact ⟨κ1, Φ1, s1, I1, q1⟩
    | false => exact ⟨κ1, Φ1, s1, I1, q1⟩⟩
def forGo (src : Src) (bd : W → S → Option S) (c : S → RS) : Nat → Nat → S → RS
  | 0, i, s => match src.get s i with
    | some none => .nx s
    | _ => .bad
  | n + 1, i, s => match src.get s i with
    | some none => .nx s
    | none => .bad
    | some (some d) => match bd d s with
      | none => .bad
      | some s1 => match c s1 with
        | .nx s2 => forGo src bd c n (i + 1) s2
        | .ct s2 => forGo src bd c n (i + 1) s2
        | .bk s2 => .nx s2
        | .rt w s2 => .rt w s2
        | .er e s2 => .er e s2
        | .bad => .bad
def forF (src : Src) (bd : W → S → Option S) (c : S → RS) (s1 : S) : RS := forGo src bd c (src.len s1) 0 s1
def forC (mi : S → R Src) (bd : W → S → Option S) (c : S → RS) : S → RS := fun s => (mi s).toS fun src s1 => forF src bd c s1
theorem zs_for {tg iter : Expr} {body : List Stmt} {mi : S → R Src} {bd : W → S → Option S} {vs : List Nat} {c : S → RS} (hp : PassesOwn (model X.prog X.w) X.A X.env X.xe) (hc : X.calm = true) (hi : ZI X Wx tg iter mi) (hg : ZG X tg bd vs) (hb : ZSs X Wx body c)
    (hs : ∀ x, foldedSetIterable iter X.env x = pure x := by intro _; rfl) : ZS X Wx (.For tg iter body [] pos) (forC mi bd c) :=
  PS.imp (ps_for hp hc hi hg hb hs) fun D σ H ⟨κ, Φ, s, I, q⟩ => by
    refine ⟨κ, Φ, s, I, (Po.toS (G := GI X.K) (f := fun src s1 => forF src bd c s1) q).weak fun J H1 ⟨κ1, Φ1, s1, src, I1, st, hJ, q1⟩ => ?_⟩
    refine ⟨fun i m σ2 H2 => ∃ κ2 Φ2 s2, Pre κ1 κ2 ∧ Sb Φ1 Φ2 ∧ SR X.K κ2 Φ2 H2 σ2 s2 ∧ PoS X.K Wx κ2 Φ2 H2 (forGo src bd c m i s2) D ∧ src.le i,
      ⟨src.len s1, κ1, Φ1, s1, Pre.refl _, Sb.refl _, I1, q1, src.le0⟩, fun i m σ2 H2 hW => ?_⟩
    obtain ⟨κ2, Φ2, s2, pr2, sb2, I2, q2, hle⟩ := hW
    obtain ⟨go, stop⟩ := hJ κ2 Φ2 H2 _ _ pr2 sb2 I2 i hle
    cases m with
    | zero =>
      unfold forGo at q2
      split at q2
      · rename_i eg; exact .inl ⟨stop eg, pos_nx q2 I2⟩
      · exact q2.elim
    | succ m =>
    unfold forGo at q2
    cases eg : src.get s2 i with
    | none => rw [eg] at q2; exact q2.elim
    | some o =>
    cases o with
    | none => rw [eg] at q2; exact .inl ⟨stop eg, pos_nx q2 I2⟩
    | some d =>
      rw [eg] at q2
      dsimp only at q2
      obtain ⟨hgo, hy⟩ := go d eg
      refine .inr ⟨hgo, fun σ3 H3 => ∃ m', m' < m + 1 ∧ ∃ κ2 Φ2 s2, Pre κ1 κ2 ∧ Sb Φ1 Φ2 ∧ SR X.K κ2 Φ2 H3 σ3 s2 ∧ PoS X.K Wx κ2 Φ2 H3 (forGo src bd c m' (i + 1) s2) D ∧ src.le (i + 1), fun _ _ h => h, fun x H3 hyl => ?_⟩
      obtain ⟨Φ3, p1, p2, p3, p4, rx⟩ := hy x H3 hyl
      have st3 : Stp κ2 Φ2 H2 κ2 Φ3 H3 := Stp.ext p1 p3 p4
      have I3 : SR X.K κ2 Φ3 H3 σ2 s2 := I2.ext p1 p2 p3 p4
      cases eb : bd d s2 with
      | none => rw [eb] at q2; exact q2.elim
      | some sb =>
        rw [eb] at q2
        refine ⟨κ2, Φ3, s2, d, I3, rx, sb, eb, fun σ4 l o I4 => ⟨κ2, Φ3, sb, I4, ?_⟩⟩
        have q3 := PoS.step q2 st3
        dsimp only at q3
        cases ec : c sb with
        | bad => rw [ec] at q3; exact q3
        | nx s5 => rw [ec] at q3; exact fun σ5 κ5 Φ5 H5 st5 I5 => ⟨m, Nat.lt_succ_self _, κ5, Φ5, s5, fun k a h => st5.pre k a (pr2 k a h), (sb2.trans p1).trans st5.fz, I5, PoS.step q3 st5, Src.leS eg⟩
        | ct s5 => rw [ec] at q3; exact fun σ5 κ5 Φ5 H5 st5 I5 => ⟨m, Nat.lt_succ_self _, κ5, Φ5, s5, fun k a h => st5.pre k a (pr2 k a h), (sb2.trans p1).trans st5.fz, I5, PoS.step q3 st5, Src.leS eg⟩
        | bk s5 => rw [ec] at q3; exact q3
        | rt w s5 => rw [ec] at q3; exact q3
        | er x s5 => rw [ec] at q3; exact q3
/-- while: n turns at most -/
def whGo (mc : S → R Bool) (c : S → RS) : Nat → S → RS
  | 0, _ => .bad
  | n + 1, s => (mc s).toS fun b s1 => if b = true then (match c s1 with
      | .nx s2 => whGo mc c n s2
      | .ct s2 => whGo mc c n s2
      | .bk s2 => .nx s2
      | .rt w s2 => .rt w s2
      | .er e s2 => .er e s2
      | .bad => .bad) else .nx s1
def whC (fuel : S → Nat) (mc : S → R Bool) (c : S → RS) : S → RS := fun s => whGo mc c (fuel s) s
theorem zs_while {c : Expr} {body : List Stmt} {mc : S → R Bool} {cb : S → RS} (fuel : S → Nat) (hp : PassesOwn (model X.prog X.w) X.A X.env X.xe) (hc : ZT X Wx c mc) (hb : ZSs X Wx body cb) : ZS X Wx (.While c body [] pos) (whC fuel mc cb) :=
  PS.imp (ps_while hp hc hb) fun D σ H ⟨κ, Φ, s, I, q⟩ => by
    refine ⟨fun m σ1 H1 => ∃ κ1 Φ1 s1, SR X.K κ1 Φ1 H1 σ1 s1 ∧ PoS X.K Wx κ1 Φ1 H1 (whGo mc cb m s1) D, ⟨fuel s, κ, Φ, s, I, q⟩, fun m σ1 H1 hW => ?_⟩
    obtain ⟨κ1, Φ1, s1, I1, q1⟩ := hW
    cases m with
    | zero => exact q1.elim
    | succ n =>
      refine ⟨κ1, Φ1, s1, I1, (Po.toS (G := GB) (f := fun b s1 => if b = true then (match cb s1 with
      | .nx s2 => whGo mc cb n s2
      | .ct s2 => whGo mc cb n s2
      | .bk s2 => .nx s2
      | .rt w s2 => .rt w s2
      | .er e s2 => .er e s2
      | .bad => .bad) else .nx s1) q1).weak fun v H2 ⟨κ2, Φ2, s2, w, I2, st, g, q2⟩ => ?_⟩
      obtain rfl : v = w := g
      cases v with
      | false => exact pos_nx q2 I2
      | true =>
        show (if true = true then _ else _)
        rw [if_pos rfl]
        refine ⟨fun σ3 H3 => ∃ m', m' < n + 1 ∧ ∃ κ1 Φ1 s1, SR X.K κ1 Φ1 H3 σ3 s1 ∧ PoS X.K Wx κ1 Φ1 H3 (whGo mc cb m' s1) D, fun _ _ h => h, κ2, Φ2, s2, I2, ?_⟩
        have q3 : PoS X.K Wx κ2 Φ2 H2 (match cb s2 with
          | .nx s2 => whGo mc cb n s2
          | .ct s2 => whGo mc cb n s2
          | .bk s2 => .nx s2
          | .rt w s2 => .rt w s2
          | .er e s2 => .er e s2
          | .bad => .bad) D := q2
        cases ec : cb s2 with
        | bad => rw [ec] at q3; exact q3
        | nx s5 => rw [ec] at q3; exact fun σ5 κ5 Φ5 H5 st5 I5 => ⟨n, Nat.lt_succ_self _, κ5, Φ5, s5, I5, PoS.step q3 st5⟩
        | ct s5 => rw [ec] at q3; exact fun σ5 κ5 Φ5 H5 st5 I5 => ⟨n, Nat.lt_succ_self _, κ5, Φ5, s5, I5, PoS.step q3 st5⟩
        | bk s5 => rw [ec] at q3; exact q3
        | rt w s5 => rw [ec] at q3; exact q3
        | er x s5 => rw [ec] at q3; exact q3
end
end Z
namespace Z
open PySem PySem.Spec PyProof.Rows L2
/-! ### cells written -/
section
variable {K : PySem.W.Frag} {κ : List Addr} {Φ H : Hp} {σ : L2.St} {s : S}
/-- the object of a cell is changed -/
theorem SR.write (I : SR K κ Φ H σ s) {k : Nat} {p : Addr} {o : HO} {c : Cell} (hp : κ[k]? = some p) (hf : Φ p = none) (hc : CellAt K κ Φ (upd H p o) p c) : SR K κ Φ (upd H p o) σ { s with st := s.st.set k c } := by
  refine ⟨fun a u h => ?_, I.nd, by simpa using I.len, fun j c' a h1 h2 => ?_, I.slen, I.env⟩
  · have ha : a ≠ p := fun z => by rw [z, hf] at h; cases h
    rw [upd_ne ha]; exact I.sb a u h
  · have h1 : (s.st.set k c)[j]? = some c' := h1
    by_cases hj : j = k
    · subst hj
      rw [hp] at h2; cases h2
      have hk : j < s.st.length := by rw [← I.len]; exact (List.getElem?_eq_some_iff.mp hp).1
      rw [List.getElem?_set_self hk] at h1
      cases h1
      exact hc
    · rw [List.getElem?_set_ne (Ne.symm hj)] at h1
      have hap : a ≠ p := fun z => hj (nodup_get I.nd h2 (z ▸ hp))
      exact (I.cells j c' a h1 h2).heap fun u h => by rw [upd_ne hap]; exact h
theorem Stp.write {k : Nat} {p : Addr} {o : HO} (hp : κ[k]? = some p) : Stp κ Φ H κ Φ (upd H p o) :=
  ⟨Sb.refl _, fun a u h hk => by
    have ha : a ≠ p := fun z => hk (by rw [z]; exact List.mem_of_getElem? hp)
    rw [upd_ne ha]; exact h, ⟨[], by simp, by simp⟩, fun _ _ h => .inl h, fun a u h => by
    by_cases ha : a = p
    · rw [ha, upd_same]; simp
    · rw [upd_ne ha, h]; simp⟩
theorem SR.cellL (I : SR K κ Φ H σ s) {k : Nat} {p : Addr} {ds : List W} (hp : κ[k]? = some p) (e : s.st[k]? = some (.lst ds)) : Φ p = none ∧ ∃ xs, H p = some (.lst xs) ∧ WsAt K κ Φ xs ds := I.cells k _ p e hp
end
/-- x.append(e), x a cell -/
def appGo (k : Nat) : W → S → RS := fun d s3 => match s3.st[k]? with
  | some (.lst ds) => if ds.length < sizeLine then .nx { s3 with st := s3.st.set k (.lst (ds ++ [d])) } else .bad
  | _ => .bad
def appW (me : S → R W) : W → S → RS := fun w s1 => match w with
  | .loc k => (match s1.st[k]? with
    | some (.lst _) => (me s1).toS (appGo k)
    | _ => .bad)
  | _ => .bad
def appC (mx : S → R W) (me : S → R W) : S → RS := fun s => (mx s).toS (appW me)
section
variable {X : Cx} {Wx : WX} {o e : Expr} {mo me : S → R W} {pos cpos apos : Pos}
theorem zs_append (ho : ZE X Wx o mo) (he : ZE X Wx e me) (hbase : attributeBase o "append" X.env (eval o X.env) = eval o X.env := by rfl)
    (hfew : ((backTo cpos (starEach [e] X.env)).all (fun x => !x.1) && (backToKw cpos (keywordEach [] X.env)).all (fun x => x.1.isSome)
      && decide ([e].length + ([] : List Keyword).length + (if ([] : List Keyword).isEmpty then 0 else 1) < 30)) = true := by rfl)
    (hline : (apos.endLine == cpos.line) = true := by rfl) (hs1 : starEach [e] X.env = (false, eval e X.env) :: starEach [] X.env := by rfl) (hplain : (backTo cpos (starEach [] X.env)).any (·.1) = false := by rfl)
    (hs : swapsWith (.Call (.Attribute o "append" apos) [e] [] cpos) none pos.line X.env = pure false := by rfl) : ZS X Wx (.Expr (.Call (.Attribute o "append" apos) [e] [] cpos) pos) (appC mo me) :=
  PS.imp (ps_expr (pe_bm PySem.F.plainAttrs_list PySem.F.slot_list_append PySem.F.type_list_append mt_append ho (pa_cons he pa_nil hs1) hbase hfew hline hs1 hplain) hs) fun D σ H ⟨κ, Φ, s, I, q⟩ => by
    refine ⟨κ, Φ, s, I, (Po.toS (G := GW X.K) (f := appW me) q).weak fun v H1 ⟨κ1, Φ1, s1, w, I1, st1, g, q1⟩ => ?_⟩
    unfold appW at q1
    cases w with
    | fr d => exact q1.elim
    | loc k =>
      dsimp only at q1
      obtain ⟨p, hp, rfl⟩ := g
      cases ek : s1.st[k]? with
      | none => rw [ek] at q1; exact q1.elim
      | some c =>
        rw [ek] at q1
        cases c with
        | lst ds0 =>
          obtain ⟨_, xs, hx, _⟩ := I1.cellL hp ek
          refine ⟨.inl ⟨rfl, xs, .of hx⟩, κ1, Φ1, s1, I1, (Po.toS (G := GW X.K) (f := appGo k) q1).weak fun u H2 ⟨κ2, Φ2, s2, d, I2, st2, r, q2⟩ => ?_⟩
          have hp2 := st2.kget hp
          unfold appGo at q2
          cases ek2 : s2.st[k]? with
          | none => rw [ek2] at q2; exact q2.elim
          | some c =>
            rw [ek2] at q2
            cases c with
            | lst ds =>
              dsimp only at q2
              split at q2
              · rename_i hz
                obtain ⟨hf, ys, hy, ry⟩ := I2.cellL hp2 ek2
                have hc : CellAt X.K κ2 Φ2 (upd H2 p (.lst (ys ++ [u]))) p (.lst (ds ++ [d])) := ⟨hf, _, upd_same, Paired.snoc ry r⟩
                exact ⟨p, ys, u, rfl, rfl, hy, by rw [Paired.length ry]; exact hz, pos_nx (PoS.step q2 (Stp.write hp2)) (I2.write hp2 hf hc)⟩
              · exact q2.elim
            | _ => exact q2.elim
        | _ => exact q1.elim
/-- x[i] = e, x a cell -/
def stoGo (k : Nat) (d : W) (j : Int) (s : S) : RS := match s.st[k]? with
  | some (.lst ds) => (match ixN ds.length j with
    | some n => .nx { s with st := s.st.set k (.lst (ds.set n d)) }
    | none => .bad)
  | _ => .bad
def stoW (d : W) (w u : W) (s : S) : RS := match w, view s u with
  | .loc k, some (.int j) => stoGo k d j s
  | _, _ => .bad
def stoC (me mx mi : S → R W) : S → RS := fun s => (me s).toS fun d s1 => (mx s1).toS fun w s2 => (mi s2).toS fun u s3 => stoW d w u s3
theorem paired_set {α β : Type} {F : α → β → Prop} : ∀ {l₁ : List α} {l₂ : List β} (i : Nat) {x : α} {y : β}, F x y → Paired F l₁ l₂ → Paired F (l₁.set i x) (l₂.set i y)
  | _, _, _, _, _, _, .nil => .nil
  | _, _, 0, _, _, h, .cons _ r => .cons h r
  | _, _, i + 1, _, _, h, .cons a r => .cons a (paired_set i h r)
theorem zs_store {i : Expr} {mi : S → R W} {p1 : Pos} (he : ZE X Wx e me) (ho : ZE X Wx o mo) (hi : ZE X Wx i mi)
    (h2 : ∀ {to ti : TE} {t : TSet}, PE X o to → PE X i ti → PSet X t → PG X (.Subscript o i p1) (gSub to ti t) := by exact fun a b c => pg_sub a b c)
    (hs : swapsWithSole [.Subscript o i p1] e pos.line X.env = pure false := by rfl) (hw : swappedStores [.Subscript o i p1] e X.env = pure none := by rfl)
    (h1 : (assignEach [.Subscript o i p1] X.env).map (·.2) = [assign (.Subscript o i p1) X.env] := by rfl) : ZS X Wx (.Assign [.Subscript o i p1] e pos) (stoC me mo mi) :=
  PS.imp (ps_asg he (h2 ho hi set_list) hs hw h1) fun D σ H ⟨κ, Φ, s, I, q⟩ => by
    refine ⟨κ, Φ, s, I, (Po.toS (G := GW X.K) (f := fun d s1 => (mo s1).toS fun w s2 => (mi s2).toS fun u s3 => stoW d w u s3) q).weak fun v H1 ⟨κ1, Φ1, s1, d, I1, st1, r, q1⟩ => ?_⟩
    refine ⟨κ1, Φ1, s1, I1, (Po.toS (G := GW X.K) (f := fun w s2 => (mi s2).toS fun u s3 => stoW d w u s3) q1).weak fun x H2 ⟨κ2, Φ2, s2, w, I2, st2, g2, q2⟩ => ?_⟩
    refine ⟨κ2, Φ2, s2, I2, (Po.toS (G := GW X.K) (f := fun u s3 => stoW d w u s3) q2).weak fun y H3 ⟨κ3, Φ3, s3, u, I3, st3, g3, q3⟩ => ?_⟩
    have g2' := WAt.up g2 st3
    unfold stoW at q3
    cases w with
    | fr d => exact q3.elim
    | loc k =>
      cases ev : view s3 u with
      | none => rw [ev] at q3; exact q3.elim
      | some dj =>
        rw [ev] at q3
        cases dj with
        | int j =>
          have q3 : PoS X.K Wx κ3 Φ3 H3 (stoGo k d j s3) D := q3
          obtain ⟨p, hp, rfl⟩ := g2'
          rw [vw_int (I3.vw g3 ev)]
          unfold stoGo at q3
          cases ek : s3.st[k]? with
          | none => rw [ek] at q3; exact q3.elim
          | some c =>
            rw [ek] at q3
            cases c with
            | lst ds =>
              dsimp only at q3
              cases en : ixN ds.length j with
              | none => rw [en] at q3; exact q3.elim
              | some n =>
                rw [en] at q3
                obtain ⟨hf, ys, hy, ry⟩ := I3.cellL hp ek
                have hc : CellAt X.K κ3 Φ3 (upd H3 p (.lst (ys.set n v))) p (.lst (ds.set n d)) := ⟨hf, _, upd_same, paired_set n ((r.up st2).up st3) ry⟩
                exact ⟨p, ys, j, n, rfl, rfl, hy, by rw [Paired.length ry]; exact en, pos_nx (PoS.step q3 (Stp.write hp)) (I3.write hp hf hc)⟩
            | _ => exact q3.elim
        | _ => exact q3.elim
end
end Z
namespace Z
open PySem PySem.Spec PyProof.Rows L2
/-! ### what a def does, on data -/
inductive RF where
  | bad | ok (w : W) (st : List Cell) | er (e : Err) (st : List Cell)
/-- the arguments and all cells -/
abbrev Sem2 := List W → List Cell → RF
/-- cells alone -/
abbrev CR0 (K : PySem.W.Frag) (κ : List Addr) (Φ H : Hp) (st : List Cell) : Prop := SR K κ Φ H [] ⟨[], st⟩
def PoF (K : PySem.W.Frag) (κ : List Addr) (Φ H : Hp) (r : RF) (Q : VK) (E : XK) : Prop :=
  match r with
  | .bad => False
  | .ok w st' => ∀ v κ' Φ' H', Stp κ Φ H κ' Φ' H' → CR0 K κ' Φ' H' st' → WAt K κ' Φ' v w → Q v H'
  | .er e st' => ∀ dd κ' Φ' H', Stp κ Φ H κ' Φ' H' → CR0 K κ' Φ' H' st' → ErrAt K κ' Φ' H' e dd → E (.ref e.cls) (some dd) H'
def spZ (K : PySem.W.Frag) (n : Nat) (g : Sem2) : Sp := fun vs H Q E => vs.length = n ∧ ∃ κ Φ ws st, CR0 K κ Φ H st ∧ WsAt K κ Φ vs ws ∧ PoF K κ Φ H (g ws st) Q E
/-- a def's contract; gd: it may ask what repr asks of the stack -/
structure FnV (gd : Bool) (P : Program) (w : World) (K : PySem.W.Frag) (mg : Str → Option Value) (base : Heap) (k : Nat) (f : Addr) (fd : FuncData) (ps : List Str) (sp : Sp) : Prop where
  len : ∀ vs H Q E, sp vs H Q E → vs.length = ps.length
  run : ∀ (A : Around) (outer : List Env) (s : Shared) (H : Hp) (args : Args) (us : List Value) (vs : List V) (Q : VK) (E : XK), Room k A → (gd = true → A.guards = some []) → Env0 P w K mg base A outer s H → BindsTo s fd args (ps.zip us) → Vals vs us → sp vs H Q E →
    codeAny (model P w) A (.call (.ref f) args) (CR (L2.CX P w) outer P w H s Q E) s
section
variable {gd : Bool} {P : Program} {w : World} {K : PySem.W.Frag} {mg : Str → Option Value} {base : Heap} {k : Nat} {f : Addr} {fd : FuncData} {ps : List Str} {sp sp' : Sp}
theorem FnV.of (F : FnOk P w K mg base (L2.CX P w) k f fd ps sp) : FnV gd P w K mg base k f fd ps sp :=
  ⟨F.len, fun A outer s H args us vs Q E hr _ he hb hv hs => F.run A outer s H args us vs Q E hr he hb hv hs⟩
theorem FnV.mono {j : Nat} (F : FnV gd P w K mg base j f fd ps sp) (h : j ≤ k) : FnV gd P w K mg base k f fd ps sp := ⟨F.len, fun A outer s H args us vs Q E hr => F.run A outer s H args us vs Q E (hr.mono h)⟩
theorem FnV.imp (F : FnV gd P w K mg base k f fd ps sp) (h : ∀ vs H Q E, sp' vs H Q E → sp vs H Q E) : FnV gd P w K mg base k f fd ps sp' :=
  ⟨fun vs H Q E q => F.len vs H Q E (h _ _ _ _ q), fun A outer s H args us vs Q E hr hg he hb hv hs => F.run A outer s H args us vs Q E hr hg he hb hv (h _ _ _ _ hs)⟩
/-- a def by its body -/
theorem FnV.body {x qual : Str} {st : Stmt} {N : List Str} (F : Fun K x qual st f fd) (S : FnScope N ps (defScope st)) (len : ∀ vs H Q E, sp vs H Q E → vs.length = ps.length)
    (hbody : ∀ (cdv : Value) (A : Around) (outer : List Env) (s : Shared) (H : Hp) (vs : List V) (Q : VK) (E : XK), Room k (A.deeper (envOfC qual (defScope st) s.heap.objs.size f cdv)) → (gd = true → (A.deeper (envOfC qual (defScope st) s.heap.objs.size f cdv)).guards = some []) → sp vs H Q E →
      ∃ t, PSs (cxOf (L2.CX P w) P w K mg base N qual (defScope st) f cdv A outer s H E) (defBody st) t ∧ t { nx := fun _ H' => Q .non H', rt := Q } (start N vs) H) : FnV gd P w K mg base (k + 1) f fd ps sp := by
  obtain ⟨oc, od, kV, doc, pm, an, cdv, ct, osl, rfl, lk, hcd⟩ := F.ex
  refine ⟨len, fun A outer s H args us vs Q E hr hg e0 hb r hsp => ?_⟩
  have KX : K.In s.heap := e0.mod.kin.keeps fun b o e => (e0.bs b o e).1
  have lim : s.heap.NoLimit := e0.mod.nolimit.keeps fun b o e => (e0.bs b o e).1
  refine codeAny_call_function hr.depth (KX _ _ lk) rfl S.co S.gen rfl (PySem.W.codeRec_of KX hcd) (hb _ _ _ _ ?_)
  refine wpAny_newFunctionEnv_cells S.kind (fun y hy => ?_) fun env he s1 x => ?_
  · obtain ⟨n, v⟩ := y
    exact (S.par n (List.of_mem_zip hy).1).elim .inl fun q => .inr ⟨q, PySem.W.cellsFrom_some _ _ _ (.inl q)⟩
  · subst he
    refine ⟨lim.keeps x.toInCall.keep, codeAny_func ?_⟩
    obtain ⟨t, ht, hq⟩ := hbody cdv A outer s H vs Q E (hr.deeper _) hg hsp
    have I := inv_start (CX := L2.CX P w) (E := E) S hr.hd e0 (len _ _ _ _ hsp) r x
    refine wpAny_mono (ht.run [] s1 (start N vs) H _ I hq) (fun fl s' hs => ?_) fun e s' hs => hs
    cases fl with
    | ret u => obtain ⟨v, σ', H', J, rv, q⟩ := hs; exact ⟨v, H', J.os, J.bare, J.base, J.hok, rv, q⟩
    | next => obtain ⟨σ', H', J, q⟩ := hs; exact ⟨.non, H', J.os, J.bare, J.base, J.hok, rfl, q⟩
    | brk => obtain ⟨_, _, _, q⟩ := hs; exact q.elim
    | cont => obtain ⟨_, _, _, q⟩ := hs; exact q.elim
end
/-! the body's semantics becomes the def's -/
def startS (n : Nat) (ws : List W) (st : List Cell) : S := { env := ws.map some ++ List.replicate (n - ws.length) none, st := st }
def fitW (m : Nat) : W → Bool
  | .fr _ => true
  | .loc k => decide (k < m)
/-- what the caller never saw and cannot see is left out -/
def cutF (m : Nat) : RF → RF
  | .bad => .bad
  | .ok w st => if fitW m w && (st.take m).all fun c => (kids c).all (fitW m) then .ok w (st.take m) else .ok w st
  | .er e st => if (e.fs.all fun p => fitW m p.2) && (st.take m).all fun c => (kids c).all (fitW m) then .er e (st.take m) else .er e st
def outR : RS → RF
  | .nx s => .ok (.fr .non) s.st
  | .rt w s => .ok w s.st
  | .er e s => .er e s.st
  | _ => .bad
def runZ (n : Nat) (c : S → RS) : Sem2 := fun ws st => cutF st.length (outR (c (startS n ws st)))
section
variable {K : PySem.W.Frag} {κ κ' : List Addr} {Φ H Φ' H' : Hp} {σ : L2.St} {s : S}
theorem SR.bare (I : SR K κ Φ H σ s) : CR0 K κ Φ H s.st := ⟨I.sb, I.nd, I.len, I.cells, rfl, fun i w e => by cases e⟩
theorem wat_cut {new : List Addr} {v : V} {w : W} (h : WAt K (κ ++ new) Φ v w) (f : fitW κ.length w = true) : WAt K κ Φ v w := by
  cases w with
  | fr d => exact h
  | loc k =>
    obtain ⟨a, e, r⟩ := h
    have hk : k < κ.length := by simpa [fitW] using f
    exact ⟨a, by rw [List.getElem?_append_left hk] at e; exact e, r⟩
theorem wsat_cut {new : List Addr} : ∀ {vs : List V} {ws : List W}, WsAt K (κ ++ new) Φ vs ws → ws.all (fitW κ.length) = true → WsAt K κ Φ vs ws
  | _, _, .nil, _ => .nil
  | _, _, .cons a r, f => by
    rw [List.all_cons, Bool.and_eq_true] at f
    exact .cons (wat_cut a f.1) (wsat_cut r f.2)
theorem cell_cut {new : List Addr} {a : Addr} {c : Cell} (h : CellAt K (κ ++ new) Φ H a c) (f : (kids c).all (fitW κ.length) = true) : CellAt K κ Φ H a c := by
  cases c with
  | lst ws => obtain ⟨z, xs, h1, r⟩ := h; exact ⟨z, xs, h1, wsat_cut r f⟩
  | tup ws => obtain ⟨z, xs, h1, r⟩ := h; exact ⟨z, xs, h1, wsat_cut r f⟩
  | dk ks ws => obtain ⟨z, xs, h1, l, r⟩ := h; exact ⟨z, xs, h1, l, wsat_cut r f⟩
  | dt ks ws => obtain ⟨z, xs, h1, l, r⟩ := h; exact ⟨z, xs, h1, l, wsat_cut r f⟩
  | ins C ks ws => obtain ⟨z, dx, xs, h1, l, r⟩ := h; exact ⟨z, dx, xs, h1, l, wsat_cut r f⟩
  | frz d => exact h
theorem CR0.cut {st : List Cell} (I : CR0 K κ' Φ H st) {new : List Addr} (e : κ' = κ ++ new) (f : ((st.take κ.length).all fun c => (kids c).all (fitW κ.length)) = true) : CR0 K κ Φ H (st.take κ.length) := by
  subst e
  refine ⟨I.sb, (List.nodup_append.mp I.nd).1, ?_, fun k c a h1 h2 => ?_, rfl, fun i w e => by cases e⟩
  · have := I.len
    rw [List.length_append] at this
    show κ.length = (st.take κ.length).length
    rw [List.length_take]
    have h3 : κ.length + new.length = st.length := this
    omega
  · have h1 : (st.take κ.length)[k]? = some c := h1
    have hk : k < κ.length := (List.getElem?_eq_some_iff.mp h2).1
    have hm := List.all_eq_true.mp f c (List.mem_of_getElem? h1)
    rw [List.getElem?_take, if_pos hk] at h1
    exact cell_cut (I.cells k c a h1 (by rw [List.getElem?_append_left hk]; exact h2)) hm
theorem Stp.cut (h : Stp κ Φ H κ' Φ' H') : Stp κ Φ H κ Φ' H' := ⟨h.fz, h.fr, ⟨[], by simp, by simp⟩, h.nf, h.al⟩
theorem err_cut {new : List Addr} {e : Err} {dd : Addr} (h : ErrAt K (κ ++ new) Φ H e dd) (f : (e.fs.all fun p => fitW κ.length p.2) = true) : ErrAt K κ Φ H e dd := by
  obtain ⟨vs, h1, h2⟩ := h
  refine ⟨vs, h1, ?_⟩
  clear h1
  revert f
  generalize e.fs = fs at h2
  intro f
  induction h2 with
  | nil => exact .nil
  | cons a r ih =>
    rw [List.all_cons, Bool.and_eq_true] at f
    exact .cons ⟨a.1, wat_cut a.2 f.1⟩ (ih f.2)
/-- cutting is sound -/
theorem pof_cut {r : RF} {Q : VK} {E : XK} (h : PoF K κ Φ H (cutF κ.length r) Q E) : PoF K κ Φ H r Q E := by
  cases r with
  | bad => exact h
  | ok w st =>
    unfold cutF at h
    dsimp only at h
    split at h
    · rename_i f
      rw [Bool.and_eq_true] at f
      intro v κ' Φ' H' st' J a
      obtain ⟨new, en, _⟩ := st'.kp
      subst en
      exact h v κ Φ' H' st'.cut (CR0.cut J rfl f.2) (wat_cut a f.1)
    · exact h
  | er e st =>
    unfold cutF at h
    dsimp only at h
    split at h
    · rename_i f
      rw [Bool.and_eq_true] at f
      intro dd κ' Φ' H' st' J a
      obtain ⟨new, en, _⟩ := st'.kp
      subst en
      exact h dd κ Φ' H' st'.cut (CR0.cut J rfl f.2) (err_cut a f.1)
    · exact h
theorem SR.start {vs : List V} {ws : List W} {st : List Cell} {N : List Str} (I : CR0 K κ Φ H st) (r : WsAt K κ Φ vs ws) : SR K κ Φ H (L2.start N vs) (startS N.length ws st) := by
  have hl := Paired.length r
  refine ⟨I.sb, I.nd, I.len, I.cells, ?_, fun i w e => ?_⟩
  · show (L2.start N vs).length = (ws.map some ++ List.replicate (N.length - ws.length) none).length
    unfold L2.start
    rw [List.length_append, List.length_append, List.length_map, List.length_map, List.length_replicate, List.length_replicate, hl]
  · have e : (ws.map some ++ List.replicate (N.length - ws.length) none)[i]? = some (some w) := e
    by_cases hi : i < ws.length
    · rw [List.getElem?_append_left (by rw [List.length_map]; exact hi), List.getElem?_map] at e
      obtain ⟨w', h1, h2⟩ := Option.map_eq_some_iff.mp e
      cases h2
      obtain ⟨v, h3, h4⟩ := paired_get r h1
      refine ⟨v, ?_, h4⟩
      unfold L2.start
      rw [List.getElem?_append_left (by rw [List.length_map, hl]; exact hi), List.getElem?_map, h3]
      rfl
    · rw [List.getElem?_append_right (by rw [List.length_map]; omega)] at e
      have := List.mem_of_getElem? e
      rw [List.mem_replicate] at this
      exact absurd this.2 (by simp)
/-- back in the caller -/
theorem SR.back (I : SR K κ Φ H σ s) (st : Stp κ Φ H κ' Φ' H') {st' : List Cell} (J : CR0 K κ' Φ' H' st') : SR K κ' Φ' H' σ { s with st := st' } :=
  ⟨J.sb, J.nd, J.len, J.cells, I.slen, fun i w e => by
    obtain ⟨v, h1, h2⟩ := I.env i w e
    exact ⟨v, h1, h2.up st⟩⟩
end
section
variable {gd : Bool} {P : Program} {w : World} {K : PySem.W.Frag} {mg : Str → Option Value} {base : Heap} {k : Nat} {f : Addr} {fd : FuncData} {ps : List Str}
abbrev bodyX (P : Program) (w : World) (K : PySem.W.Frag) (mg : Str → Option Value) (base : Heap) (N : List Str) (qual : Str) (st : Stmt) (f : Addr) (cdv : Value) (A : Around) (outer : List Env) (s : Shared) (H : Hp) (E : XK) : Cx :=
  cxOf (L2.CX P w) P w K mg base N qual (defScope st) f cdv A outer s H E
abbrev EW (E : XK) : WX := fun cls d _ H => E cls d H
/-- THE RULE for a def: its body by the rules; what comes out of it, on data -/
theorem fnv {x qual : Str} {st : Stmt} {N : List Str} {c : S → RS} (F : Fun K x qual st f fd) (S : FnScope N ps (defScope st))
    (h : ∀ (cdv : Value) (A : Around) (outer : List Env) (s : Shared) (H : Hp) (E : XK), Room k (bodyX P w K mg base N qual st f cdv A outer s H E).A → (gd = true → (bodyX P w K mg base N qual st f cdv A outer s H E).A.guards = some []) → Takes (bodyX P w K mg base N qual st f cdv A outer s H E) (EW E) →
      ZSs (bodyX P w K mg base N qual st f cdv A outer s H E) (EW E) (defBody st) c) : FnV gd P w K mg base (k + 1) f fd ps (spZ K ps.length (runZ N.length c)) := by
  refine FnV.body F S (fun vs H Q E h => h.1) fun cdv A outer s H vs Q E hr hg hsp => ?_
  obtain ⟨_, κ, Φ, ws, st0, I, r, q⟩ := hsp
  refine ⟨_, h cdv A outer s H E hr hg (takes_of rfl rfl rfl rfl), κ, Φ, _, SR.start I r, ?_⟩
  have hlen : κ.length = st0.length := I.len
  unfold runZ at q
  rw [← hlen] at q
  have q := pof_cut q
  cases e : c (startS N.length ws st0) with
  | bad => rw [e] at q; exact q.elim
  | bk s1 => rw [e] at q; exact q.elim
  | ct s1 => rw [e] at q; exact q.elim
  | nx s1 => rw [e] at q; exact fun σ' κ' Φ' H' st I' => q .non κ' Φ' H' st I'.bare Rep.non
  | rt w1 s1 => rw [e] at q; exact fun v σ' κ' Φ' H' st I' g => q v κ' Φ' H' st I'.bare g
  | er x s1 => rw [e] at q; exact fun dd σ' κ' Φ' H' st I' ea => q dd κ' Φ' H' st I'.bare ea
/-- a nicer semantics: it may tell less -/
theorem FnV.nice {n : Nat} {g g' : Sem2} (F : FnV gd P w K mg base k f fd ps (spZ K n g)) (h : ∀ ws st, ws.length = n → g' ws st ≠ .bad → g ws st = g' ws st) : FnV gd P w K mg base k f fd ps (spZ K n g') := by
  refine F.imp fun vs H Q E hs => ?_
  obtain ⟨hl, κ, Φ, ws, st, I, r, q⟩ := hs
  refine ⟨hl, κ, Φ, ws, st, I, r, ?_⟩
  rw [h ws st (by rw [← Paired.length r]; exact hl) (fun z => by rw [z] at q; exact q)]
  exact q
end
/-! ### calls -/
def callW (n : Nat) (g : Sem2) (ws : List W) (s : S) : R W :=
  if ws.length = n then match g ws s.st with
  | .ok w st' => .ok w { s with st := st' }
  | .er e st' => .er e { s with st := st' }
  | .bad => .bad
  else .bad
def callM (n : Nat) (g : Sem2) (ms : S → R (List W)) : S → R W := fun s => (ms s).then fun ws s1 => callW n g ws s1
section
variable {gd : Bool} {X : Cx} {Wx : WX} {k : Nat} {f : Addr} {fd : FuncData} {ps : List Str}
theorem run_fnV {E : XK} {sp : Sp} {pins : List (Addr × Obj)} {σ : L2.St} {H : Hp} {s : Shared} {Q : VK} {us : List Value} {vs : List V} (F : FnV gd X.prog X.w X.K X.mg X.base k f fd ps sp) (hr : Room k X.A) (hgd : gd = true → X.A.guards = some []) (hb : Binds X.K fd ps []) (hx : PassesAt (L2.CX X.prog X.w) X σ E)
    (I : Inv X pins σ H s) (r : Vals vs us) (h : sp vs H Q E) : wpAny (model X.prog X.w) X.A (call (.ref f) us) (EP X pins σ Q) X.xe s := by
  have hl : us.length = ps.length := r.length.symm.trans (F.len _ _ _ _ h)
  have b := hb s us I.kIn ((congrArg List.length (List.append_nil us)).trans hl)
  rw [List.append_nil] at b
  refine wpAny_call (codeAny_mono (F.run X.A X.stack s H ⟨us, []⟩ us vs Q E hr hgd I.env0 b r h) fun res s' hq => ?_)
  cases res with
  | error e => exact hx pins H s e s' I hq
  | ok fl => cases fl with
    | ret u => exact I.after hq
    | next => exact hq.elim
    | brk => exact hq.elim
    | cont => exact hq.elim
theorem ze_call {n : Nat} {g : Sem2} {x : Str} {p pos : Pos} {e : Expr} {es : List Expr} {ms : S → R (List W)} (F : FnV gd X.prog X.w X.K X.mg X.base k f fd ps (spZ X.K n g)) (hr : Room k X.A) (hgd : gd = true → X.A.guards = some []) (hm : X.mg x = some (.ref f)) (hk : PySem.W.keepIn X.K (.ref f) = true) (hb : Binds X.K fd ps []) (tk : Takes X Wx)
    (ha : ZA X Wx (e :: es) ms) (hg : Gl X x := by rfl) (hdb : (x == ("__debug__" : Str)) = false := by decide) (he : starEach (e :: es) X.env = (false, eval e X.env) :: starEach es X.env := by rfl) (hpl : (backTo pos (starEach es X.env)).any (·.1) = false := by rfl) :
    ZE X Wx (.Call (.Name x p) (e :: es) [] pos) (callM n g ms) := by
  refine ⟨fun pins sh σ H Q I h => ?_⟩
  refine wpAny_Call_Name_kw (ld_glob I hg hm ?_ hdb)
  obtain ⟨κ, Φ, s, I0, q⟩ := h
  have hA := ha.run pos pins sh σ H (fun vs H1 => ∃ κ1 Φ1 s1 ws, SR X.K κ1 Φ1 H1 σ s1 ∧ Stp κ Φ H κ1 Φ1 H1 ∧ GA X.K κ1 Φ1 H H1 vs ws ∧ Po X.K Wx (GW X.K) κ1 Φ1 H1 σ (callW n g ws s1) Q) I ⟨κ, Φ, s, I0, Po.seqW (f := fun ws s1 => callW n g ws s1) q⟩
  refine PySem.W.callWith_K (h₀ := X.base) I.ok.mod.kin hk (thn hA fun us sh1 ⟨vs, H1, I1, r, κ1, Φ1, s1, ws, I2, st, ga, q1⟩ => ⟨I1.kIn, ?_⟩) he hpl
  unfold callW at q1
  split at q1
  · rename_i hlen
    refine run_fnV (E := WE Wx σ) F hr hgd hb (passAt tk σ) I1 r ⟨(Paired.length ga).trans hlen, κ1, Φ1, ws, s1.st, I2.bare, ga, ?_⟩
    cases eg : g ws s1.st with
    | bad => rw [eg] at q1; exact q1.elim
    | ok d st' => rw [eg] at q1; exact fun v κ' Φ' H' st2 J rd => q1 v κ' Φ' H' st2 (I2.back st2 J) rd
    | er x st' => rw [eg] at q1; exact fun dd κ' Φ' H' st2 J ea => q1 dd κ' Φ' H' st2 (I2.back st2 J) ea
  · exact q1.elim
end
end Z
namespace Z
open PySem PySem.Spec PyProof.Rows L2
/-! ### calls of builtins -/
def ZC (X : Cx) (f : Value) (g : S → List W → R W) : Prop := ∃ r, CallR X f r ∧ ∀ (Wx : WX) (κ : List Addr) (Φ H H0 : Hp) (σ : L2.St) (s : S) (vs : List V) (ws : List W) (Q : VK),
  SR X.K κ Φ H σ s → GA X.K κ Φ H0 H vs ws → Po X.K Wx (GW X.K) κ Φ H σ (g s ws) Q → r vs H Q
def ZCN (X : Cx) (f : Value) (g : S → List W → R (List W)) : Prop := ∃ r, CallR X f r ∧ ∀ (Wx : WX) (κ : List Addr) (Φ H H0 : Hp) (σ : L2.St) (s : S) (vs : List V) (ws : List W) (Q : VK),
  SR X.K κ Φ H σ s → GA X.K κ Φ H0 H vs ws → Po X.K Wx (GN X.K) κ Φ H σ (g s ws) Q → r vs H Q
section
variable {X : Cx} {Wx : WX} {x : Str} {p pos : Pos} {e : Expr} {es : List Expr} {ms : S → R (List W)} {id T : String}
def cbM {α : Type} (g : S → List W → R α) (ms : S → R (List W)) : S → R α := fun s => (ms s).then fun ws s1 => g s1 ws
theorem cb_read {r : List V → Hp → VK → Prop} {g : S → List W → R W} (hr : ∀ (Wx : WX) (κ : List Addr) (Φ H H0 : Hp) (σ : L2.St) (s : S) (vs : List V) (ws : List W) (Q : VK),
  SR X.K κ Φ H σ s → GA X.K κ Φ H0 H vs ws → Po X.K Wx (GW X.K) κ Φ H σ (g s ws) Q → r vs H Q) {σ : L2.St} {H : Hp} {Q : VK} (h : tG X.K Wx (GW X.K) (cbM g ms) σ H Q) : tCB r (tG X.K Wx (GA X.K) ms) σ H Q := by
  obtain ⟨κ, Φ, s, I, q⟩ := h
  exact ⟨κ, Φ, s, I, (Po.seqW (f := fun ws s1 => g s1 ws) q).weak fun vs H1 ⟨κ1, Φ1, s1, ws, I1, st, ga, q1⟩ => hr Wx κ1 Φ1 H1 H σ s1 vs ws Q I1 ga q1⟩
theorem cbn_read {r : List V → Hp → VK → Prop} {g : S → List W → R (List W)} (hr : ∀ (Wx : WX) (κ : List Addr) (Φ H H0 : Hp) (σ : L2.St) (s : S) (vs : List V) (ws : List W) (Q : VK),
  SR X.K κ Φ H σ s → GA X.K κ Φ H0 H vs ws → Po X.K Wx (GN X.K) κ Φ H σ (g s ws) Q → r vs H Q) {σ : L2.St} {H : Hp} {Q : VK} (h : tG X.K Wx (GN X.K) (cbM g ms) σ H Q) : tCB r (tG X.K Wx (GA X.K) ms) σ H Q := by
  obtain ⟨κ, Φ, s, I, q⟩ := h
  exact ⟨κ, Φ, s, I, (Po.seqN (f := fun ws s1 => g s1 ws) q).weak fun vs H1 ⟨κ1, Φ1, s1, ws, I1, st, ga, q1⟩ => hr Wx κ1 Φ1 H1 H σ s1 vs ws Q I1 ga q1⟩
theorem ze_cb {g : S → List W → R W} (hc : ZC X (.builtin id) g) (hv : bootBuiltins x = some (.builtin id)) (hm : X.mg x = none) (ha : ZA X Wx (e :: es) ms) (hg : Gl X x := by rfl) (hn : x ≠ "__name__" := by decide) (hdb : (x == ("__debug__" : Str)) = false := by decide)
    (he : starEach (e :: es) X.env = (false, eval e X.env) :: starEach es X.env := by rfl) (hpl : (backTo pos (starEach es X.env)).any (·.1) = false := by rfl) : ZE X Wx (.Call (.Name x p) (e :: es) [] pos) (cbM g ms) := by
  obtain ⟨r, hc, hr⟩ := hc
  exact PE.imp (pe_callB hc hg hm hv ha hn hdb he hpl) fun σ H Q h => cb_read hr h
theorem ze_cty {g : S → List W → R W} (hc : ZC X (.type T) g) (hv : bootBuiltins x = some (.type T)) (hm : X.mg x = none) (ha : ZA X Wx (e :: es) ms) (hg : Gl X x := by rfl) (hn : x ≠ "__name__" := by decide) (hdb : (x == ("__debug__" : Str)) = false := by decide)
    (he : starEach (e :: es) X.env = (false, eval e X.env) :: starEach es X.env := by rfl) (hpl : (backTo pos (starEach es X.env)).any (·.1) = false := by rfl) : ZE X Wx (.Call (.Name x p) (e :: es) [] pos) (cbM g ms) := by
  obtain ⟨r, hc, hr⟩ := hc
  exact PE.imp (pe_callTy hc hg hm hv ha hn hdb he hpl) fun σ H Q h => cb_read hr h
theorem zn_cb {g : S → List W → R (List W)} (hc : ZCN X (.builtin id) g) (hv : bootBuiltins x = some (.builtin id)) (hm : X.mg x = none) (ha : ZA X Wx (e :: es) ms) (hg : Gl X x := by rfl) (hn : x ≠ "__name__" := by decide) (hdb : (x == ("__debug__" : Str)) = false := by decide)
    (he : starEach (e :: es) X.env = (false, eval e X.env) :: starEach es X.env := by rfl) (hpl : (backTo pos (starEach es X.env)).any (·.1) = false := by rfl) : ZN X Wx (.Call (.Name x p) (e :: es) [] pos) (cbM g ms) := by
  obtain ⟨r, hc, hr⟩ := hc
  exact PE.imp (pe_callB hc hg hm hv ha hn hdb he hpl) fun σ H Q h => cbn_read hr h
theorem zn_cty {g : S → List W → R (List W)} (hc : ZCN X (.type T) g) (hv : bootBuiltins x = some (.type T)) (hm : X.mg x = none) (ha : ZA X Wx (e :: es) ms) (hg : Gl X x := by rfl) (hn : x ≠ "__name__" := by decide) (hdb : (x == ("__debug__" : Str)) = false := by decide)
    (he : starEach (e :: es) X.env = (false, eval e X.env) :: starEach es X.env := by rfl) (hpl : (backTo pos (starEach es X.env)).any (·.1) = false := by rfl) : ZN X Wx (.Call (.Name x p) (e :: es) [] pos) (cbM g ms) := by
  obtain ⟨r, hc, hr⟩ := hc
  exact PE.imp (pe_callTy hc hg hm hv ha hn hdb he hpl) fun σ H Q h => cbn_read hr h
/-! one argument, seen as data; two -/
def g1 (f : D → Option D) (s : S) : List W → R W
  | [w] => match view s w with
    | some d => (match f d with | some d' => .ok (.fr d') s | none => .bad)
    | none => .bad
  | _ => .bad
def g2 (f : D → D → Option D) (s : S) : List W → R W
  | [w, u] => op2 f s w u
  | _ => .bad
theorem zc_1 {v : Value} {f : D → Option D} {r : List V → Hp → VK → Prop} (hc : CallR X v r) (hr : ∀ (Φ H : Hp) (x : V) (d d' : D) (Q : VK), Sb Φ H → Vw X.K Φ H x d → f d = some d' → (∀ v, Rep X.K Φ v d' → Q v H) → r [x] H Q) : ZC X v (g1 f) :=
  ⟨r, hc, fun Wx κ Φ H H0 σ s vs ws Q I ga q => by
    unfold g1 at q
    split at q
    · rename_i w
      cases ga with
      | cons a t =>
        cases t
        cases e1 : view s w with
        | none => rw [e1] at q; exact q.elim
        | some d =>
          rw [e1] at q
          dsimp only at q
          cases e2 : f d with
          | none => rw [e2] at q; exact q.elim
          | some d' => rw [e2] at q; exact hr Φ H _ d d' Q I.sb (I.vw a e1) e2 fun v hv => po_ret q I hv
    · exact q.elim⟩
theorem zc_2 {v : Value} {f : D → D → Option D} {r : List V → Hp → VK → Prop} (hc : CallR X v r) (hr : ∀ (Φ H : Hp) (x y : V) (a b d' : D) (Q : VK), Sb Φ H → Vw X.K Φ H x a → Vw X.K Φ H y b → f a b = some d' → (∀ v, Rep X.K Φ v d' → Q v H) → r [x, y] H Q) : ZC X v (g2 f) :=
  ⟨r, hc, fun Wx κ Φ H H0 σ s vs ws Q I ga q => by
    unfold g2 at q
    split at q
    · rename_i w u
      cases ga with
      | cons a t => cases t with
        | cons b t =>
          cases t
          obtain ⟨x, y, d, e1, e2, e3, q3⟩ := op2_cases (P := fun r => Po X.K Wx (GW X.K) κ Φ H σ r Q) q id
          exact hr Φ H _ _ x y d Q I.sb (I.vw a e1) (I.vw b e2) e3 fun v hv => po_ret q3 I hv
    · exact q.elim⟩
/-- a list's items, as values -/
def lstF : D → Option (List W)
  | .lst ds => some (ds.map .fr)
  | .scr ns => some (ns.map fun i => .fr (.int i))
  | _ => none
def lstV (s : S) : W → Option (List W)
  | .fr d => lstF d
  | .loc k => match s.st[k]? with
    | some (.lst ws) => some ws
    | some (.frz d) => lstF d
    | _ => none
theorem ints_ws {K : PySem.W.Frag} {κ : List Addr} {Φ : Hp} : ∀ ns : List Int, WsAt K κ Φ (ns.map V.int) (ns.map fun i => W.fr (.int i))
  | [] => .nil
  | n :: r => .cons (.int n) (ints_ws r)
theorem lstV_ok {K : PySem.W.Frag} {κ : List Addr} {Φ H : Hp} {σ : L2.St} {s : S} {v : V} {w : W} {ws : List W} (I : SR K κ Φ H σ s) (h : WAt K κ Φ v w) (e : lstV s w = some ws) : ∃ a xs, v = .ref a ∧ SqL K H a xs ∧ WsAt K κ Φ xs ws := by
  have fr : ∀ d, Rep K Φ v d → lstF d = some ws → ∃ a xs, v = .ref a ∧ SqL K H a xs ∧ WsAt K κ Φ xs ws := fun d h e => by
    cases h with
    | lst h1 r => cases e; exact ⟨_, _, rfl, .of (I.sb _ _ h1), reps_ws r⟩
    | scr h1 => cases e; exact ⟨_, _, rfl, sb_sql I.sb h1, ints_ws _⟩
    | _ => cases e
  cases w with
  | fr d => exact fr d h e
  | loc k =>
    obtain ⟨p, hp, rfl⟩ := h
    obtain ⟨c, hk, hc⟩ := I.cellAt hp
    unfold lstV at e
    dsimp only at e
    rw [hk] at e
    cases c with
    | lst ws' => cases e; obtain ⟨_, xs, h1, r⟩ := hc; exact ⟨p, xs, rfl, .of h1, r⟩
    | frz d => exact fr d hc.2 e
    | _ => cases e
def lenD : D → Option Int
  | .lst ds => some ds.length
  | .tup ds => some ds.length
  | .scr ns => some ns.length
  | .str z => if z.length ≤ sizeLine then some z.length else none
  | _ => none
def lenW (s : S) : W → Option Int
  | .fr d => lenD d
  | .loc k => match s.st[k]? with
    | some (.lst ws) => some ws.length
    | some (.tup ws) => some ws.length
    | some (.frz d) => lenD d
    | _ => none
def gLen (s : S) : List W → R W
  | [w] => match lenW s w with
    | some i => .ok (.fr (.int i)) s
    | none => .bad
  | _ => .bad
theorem zc_len : ZC X (.builtin "len") gLen := ⟨_, call_len, fun Wx κ Φ H H0 σ s vs ws Q I ga q => by
  unfold gLen at q
  split at q
  · rename_i w
    cases ga with
    | @cons x _ _ _ a t =>
      cases t
      cases e1 : lenW s w with
      | none => rw [e1] at q; exact q.elim
      | some i =>
      rw [e1] at q
      have k : ∀ v, Rep X.K Φ v (.int i) → Q v H := fun v hv => po_ret q I hv
      have fr : ∀ d, Rep X.K Φ x d → lenD d = some i → ∃ y n, [x] = [y] ∧ LenV X.K y H n ∧ Q (.int n) H := fun d h e => by
        cases h with
        | lst h1 r => cases e; exact ⟨_, _, rfl, .inl ⟨_, .of (I.sb _ _ h1), rfl⟩, by rw [r.length]; exact k _ (.int _)⟩
        | tup h1 r => cases e; exact ⟨_, _, rfl, .inr ⟨_, .of (I.sb _ _ h1), rfl⟩, by rw [r.length]; exact k _ (.int _)⟩
        | scr h1 => cases e; exact ⟨_, _, rfl, .inl ⟨_, sb_sql I.sb h1, rfl⟩, by rw [List.length_map]; exact k _ (.int _)⟩
        | str z =>
          have e : (if z.length ≤ sizeLine then some (z.length : Int) else none) = some i := e
          split at e
          · rename_i hz; cases e; exact ⟨_, _, rfl, ⟨hz, rfl⟩, k _ (.int _)⟩
          · cases e
        | _ => cases e
      cases w with
      | fr d => exact fr d a e1
      | loc m =>
        obtain ⟨p, hp, rfl⟩ := a
        obtain ⟨c, hk, hc⟩ := I.cellAt hp
        unfold lenW at e1
        dsimp only at e1
        rw [hk] at e1
        cases c with
        | lst ws => cases e1; obtain ⟨_, xs, h1, r⟩ := hc; exact ⟨_, _, rfl, .inl ⟨_, .of h1, rfl⟩, by rw [Paired.length r]; exact k _ (.int _)⟩
        | tup ws => cases e1; obtain ⟨_, xs, h1, r⟩ := hc; exact ⟨_, _, rfl, .inr ⟨_, .of h1, rfl⟩, by rw [Paired.length r]; exact k _ (.int _)⟩
        | frz d => exact fr d hc.2 e1
        | _ => cases e1
  · exact q.elim⟩
/-- a list of ints -/
def allI : List D → Option (List Int)
  | [] => some []
  | .int i :: r => (allI r).map (i :: ·)
  | _ :: _ => none
theorem allI_map : ∀ (ns : List Int), allI (ns.map .int) = some ns
  | [] => rfl
  | n :: r => by show (allI (r.map .int)).map (n :: ·) = _; rw [allI_map r]; rfl
theorem allI_ok : ∀ {ds : List D} {ns : List Int}, allI ds = some ns → ds = ns.map .int
  | [], ns, h => by cases h; rfl
  | d :: r, ns, h => by
    cases d with
    | int i =>
      change (allI r).map (i :: ·) = some ns at h
      cases q : allI r with
      | none => rw [q] at h; cases h
      | some ms => rw [q] at h; cases h; rw [allI_ok q]; rfl
    | _ => cases h
theorem reps_ints {K : PySem.W.Frag} {Φ : Hp} : ∀ {ns : List Int} {xs : List V}, Reps K Φ xs (ns.map .int) → xs = ns.map V.int
  | [], _, .nil => rfl
  | n :: r, _, .cons h t => by cases h; rw [reps_ints t]; rfl
def minL : List Int → Int
  | [] => 0
  | [x] => x
  | x :: y :: r => min x (minL (y :: r))
theorem minL_ok : ∀ {ns : List Int}, ns ≠ [] → minL ns ∈ ns ∧ ∀ y ∈ ns, minL ns ≤ y
  | [], h => absurd rfl h
  | [x], _ => ⟨by simp [minL], fun y hy => by simp at hy; subst hy; exact Int.le_refl _⟩
  | x :: y :: r, _ => by
    obtain ⟨h1, h2⟩ := minL_ok (ns := y :: r) (by simp)
    rw [minL]
    refine ⟨?_, fun z hz => ?_⟩
    · by_cases hc : x ≤ minL (y :: r)
      · rw [Int.min_eq_left hc]; exact List.mem_cons_self
      · rw [Int.min_eq_right (by omega)]; exact List.mem_cons_of_mem _ h1
    · rcases List.mem_cons.mp hz with e | hz
      · subst e; exact Int.min_le_left _ _
      · exact Int.le_trans (Int.min_le_right _ _) (h2 z hz)
theorem minL_uniq {ns : List Int} {m : Int} (h1 : m ∈ ns) (h2 : ∀ y ∈ ns, m ≤ y) : m = minL ns := by
  have hne : ns ≠ [] := fun z => by rw [z] at h1; cases h1
  obtain ⟨h3, h4⟩ := minL_ok hne
  exact Int.le_antisymm (h2 _ h3) (h4 _ h1)
def maxL : List Int → Int
  | [] => 0
  | [x] => x
  | x :: y :: r => max x (maxL (y :: r))
theorem maxL_ok : ∀ {ns : List Int}, ns ≠ [] → maxL ns ∈ ns ∧ ∀ y ∈ ns, y ≤ maxL ns
  | [], h => absurd rfl h
  | [x], _ => ⟨by simp [maxL], fun y hy => by simp at hy; subst hy; exact Int.le_refl _⟩
  | x :: y :: r, _ => by
    obtain ⟨h1, h2⟩ := maxL_ok (ns := y :: r) (by simp)
    rw [maxL]
    refine ⟨?_, fun z hz => ?_⟩
    · by_cases hc : x ≤ maxL (y :: r)
      · rw [Int.max_eq_right hc]; exact List.mem_cons_of_mem _ h1
      · rw [Int.max_eq_left (by omega)]; exact List.mem_cons_self
    · rcases List.mem_cons.mp hz with e | hz
      · subst e; exact Int.le_max_left _ _
      · exact Int.le_trans (h2 z hz) (Int.le_max_right _ _)
theorem maxL_uniq {ns : List Int} {m : Int} (h1 : m ∈ ns) (h2 : ∀ y ∈ ns, y ≤ m) : m = maxL ns := by
  have hne : ns ≠ [] := fun z => by rw [z] at h1; cases h1
  obtain ⟨h3, h4⟩ := maxL_ok hne
  exact Int.le_antisymm (h4 _ h1) (h2 _ h3)
def lstI : D → Option (List Int)
  | .lst ds => allI ds
  | .scr ns => some ns
  | _ => none
theorem lstI_ok {K : PySem.W.Frag} {Φ H : Hp} {v : V} {d : D} {ns : List Int} (sb : Sb Φ H) (h : Vw K Φ H v d) (e : lstI d = some ns) : ∃ a, v = .ref a ∧ SqL K H a (ns.map V.int) := by
  cases d with
  | lst ds =>
    obtain ⟨a, xs, rfl, h1, r⟩ := h
    have e2 := allI_ok (show allI ds = some ns from e)
    subst e2
    rw [reps_ints r] at h1
    exact ⟨a, rfl, .of h1⟩
  | scr ms => cases e; cases h with | scr h => exact ⟨_, rfl, sb_sql sb h⟩
  | _ => cases e
def minD (d : D) : Option D := match lstI d with | some ns => if ns = [] then none else some (.int (minL ns)) | none => none
def maxD (d : D) : Option D := match lstI d with | some ns => if ns = [] then none else some (.int (maxL ns)) | none => none
def sumD (d : D) : Option D := (lstI d).map fun ns => .int ns.sum
theorem zc_min (hc : X.calm = true := by rfl) : ZC X (.builtin "min") (g1 minD) := zc_1 (cr_min hc) fun Φ H x d d' Q sb hv e k => by
  unfold minD at e
  cases e1 : lstI d with
  | none => rw [e1] at e; cases e
  | some ns =>
    rw [e1] at e
    dsimp only at e
    split at e
    · cases e
    · rename_i hne
      cases e
      obtain ⟨a, rfl, h⟩ := lstI_ok sb hv e1
      exact ⟨a, ns, rfl, h, List.length_pos_iff.mpr hne, fun m h1 h2 => by rw [minL_uniq h1 h2]; exact k _ (.int _)⟩
theorem zc_max (hc : X.calm = true := by rfl) : ZC X (.builtin "max") (g1 maxD) := zc_1 (cr_max hc) fun Φ H x d d' Q sb hv e k => by
  unfold maxD at e
  cases e1 : lstI d with
  | none => rw [e1] at e; cases e
  | some ns =>
    rw [e1] at e
    dsimp only at e
    split at e
    · cases e
    · rename_i hne
      cases e
      obtain ⟨a, rfl, h⟩ := lstI_ok sb hv e1
      exact ⟨a, ns, rfl, h, List.length_pos_iff.mpr hne, fun m h1 h2 => by rw [maxL_uniq h1 h2]; exact k _ (.int _)⟩
theorem zc_sum (hc : X.calm = true := by rfl) : ZC X (.builtin "sum") (g1 sumD) := zc_1 (cr_sum hc) fun Φ H x d d' Q sb hv e k => by
  unfold sumD at e
  cases e1 : lstI d with
  | none => rw [e1] at e; cases e
  | some ns =>
    rw [e1] at e
    cases e
    obtain ⟨a, rfl, h⟩ := lstI_ok sb hv e1
    exact ⟨a, ns, rfl, h, k _ (.int _)⟩
abbrev max2D := iop (fun _ _ => true) fun i j => .int (if j > i then j else i)
abbrev min2D := iop (fun _ _ => true) fun i j => .int (if j < i then j else i)
theorem zc_max2 (hc : X.calm = true := by rfl) : ZC X (.builtin "max") (g2 max2D) := zc_2 (call_max2 hc) fun Φ H x y a b d' Q sb hx hy e k => by
  obtain ⟨i, j, rfl, rfl, _, rfl⟩ := iop_some e
  rw [vw_int hx, vw_int hy]
  exact ⟨i, j, rfl, k _ (.int _)⟩
theorem zc_min2 (hc : X.calm = true := by rfl) : ZC X (.builtin "min") (g2 min2D) := zc_2 (call_min2 hc) fun Φ H x y a b d' Q sb hx hy e k => by
  obtain ⟨i, j, rfl, rfl, _, rfl⟩ := iop_some e
  rw [vw_int hx, vw_int hy]
  exact ⟨i, j, rfl, k _ (.int _)⟩
def allBs : List D → Option (List Bool)
  | [] => some []
  | .bl i :: r => (allBs r).map (i :: ·)
  | _ :: _ => none
theorem allBs_map : ∀ (ns : List Bool), allBs (ns.map .bl) = some ns
  | [] => rfl
  | n :: r => by show (allBs (r.map .bl)).map (n :: ·) = _; rw [allBs_map r]; rfl
theorem allBs_ok : ∀ {ds : List D} {ns : List Bool}, allBs ds = some ns → ds = ns.map .bl
  | [], ns, h => by cases h; rfl
  | d :: r, ns, h => by
    cases d with
    | bl i =>
      change (allBs r).map (i :: ·) = some ns at h
      cases q : allBs r with
      | none => rw [q] at h; cases h
      | some ms => rw [q] at h; cases h; rw [allBs_ok q]; rfl
    | _ => cases h
theorem reps_bls {K : PySem.W.Frag} {Φ : Hp} : ∀ {ns : List Bool} {xs : List V}, Reps K Φ xs (ns.map .bl) → xs = ns.map V.bl
  | [], _, .nil => rfl
  | n :: r, _, .cons h t => by cases h; rw [reps_bls t]; rfl
def lstB : D → Option (List Bool)
  | .lst ds => allBs ds
  | _ => none
theorem lstB_ok {K : PySem.W.Frag} {Φ H : Hp} {v : V} {d : D} {ns : List Bool} (h : Vw K Φ H v d) (e : lstB d = some ns) : ∃ a, v = .ref a ∧ SqL K H a (ns.map V.bl) := by
  cases d with
  | lst ds =>
    obtain ⟨a, xs, rfl, h1, r⟩ := h
    have e2 := allBs_ok (show allBs ds = some ns from e)
    subst e2
    rw [reps_bls r] at h1
    exact ⟨a, rfl, .of h1⟩
  | _ => cases e
def allD (d : D) : Option D := (lstB d).map fun bs => .bl (bs.all _root_.id)
def anyD (d : D) : Option D := (lstB d).map fun bs => .bl (bs.any _root_.id)
theorem zc_all (hc : X.calm = true := by rfl) : ZC X (.builtin "all") (g1 allD) := zc_1 (cr_all hc) fun Φ H x d d' Q sb hv e k => by
  unfold allD at e
  cases e1 : lstB d with
  | none => rw [e1] at e; cases e
  | some ns =>
    rw [e1] at e
    cases e
    obtain ⟨a, rfl, h⟩ := lstB_ok hv e1
    exact ⟨a, ns, rfl, h, k _ (.bl _)⟩
theorem zc_any (hc : X.calm = true := by rfl) : ZC X (.builtin "any") (g1 anyD) := zc_1 (cr_any hc) fun Φ H x d d' Q sb hv e k => by
  unfold anyD at e
  cases e1 : lstB d with
  | none => rw [e1] at e; cases e
  | some ns =>
    rw [e1] at e
    cases e
    obtain ⟨a, rfl, h⟩ := lstB_ok hv e1
    exact ⟨a, ns, rfl, h, k _ (.bl _)⟩
def intD : D → Option D
  | .int i => some (.int i)
  | .bl b => some (.int (if b then 1 else 0))
  | _ => none
theorem zc_int : ZC X (.type "int") (g1 intD) := zc_1 call_int1 fun Φ H x d d' Q sb hv e k => by
  cases d with
  | int i => cases e; rw [vw_int hv]; exact .inl ⟨i, rfl, k _ (.int _)⟩
  | bl b => cases e; rw [vw_bl hv]; exact .inr ⟨b, rfl, k _ (.int _)⟩
  | _ => cases e
/-! fresh lists: list(x) -/
def gList (s : S) : List W → R (List W)
  | [w] => match lstV s w with
    | some ws => .ok ws s
    | none => match tupW s w with
      | some ws => .ok ws s
      | none => .bad
  | _ => .bad
theorem po_new {K : PySem.W.Frag} {κ : List Addr} {Φ H : Hp} {σ : L2.St} {s : S} {ds : List W} {xs : List V} {Q : VK} {l : Addr} (q : Po K Wx (GN K) κ Φ H σ (.ok ds s) Q) (I : SR K κ Φ H σ s) (r : WsAt K κ Φ xs ds) (hl : H l = none) : Q (.ref l) (upd H l (.lst xs)) := by
  obtain ⟨hf, hk⟩ := I.fresh hl
  exact q (.ref l) κ Φ _ (Stp.grow (Sb.new hl)) (I.grow (Sb.new hl)) ⟨l, xs, rfl, hl, hf, hk, upd_same, r⟩
theorem zcn_list : ZCN X (.type "list") gList := ⟨_, call_list_of, fun Wx κ Φ H H0 σ s vs ws Q I ga q => by
  unfold gList at q
  split at q
  · rename_i w
    cases ga with
    | cons a t =>
      cases t
      cases e : lstV s w with
      | some us => rw [e] at q; obtain ⟨b, xs, rfl, h, r⟩ := lstV_ok I a e; exact ⟨b, xs, rfl, .inl h, fun l hl => po_new q I r hl⟩
      | none =>
        rw [e] at q
        dsimp only at q
        cases e : tupW s w with
        | some us => rw [e] at q; obtain ⟨b, xs, rfl, h, r⟩ := tupW_ok I a e; exact ⟨b, xs, rfl, .inr (.of h), fun l hl => po_new q I r hl⟩
        | none => rw [e] at q; exact q.elim
  · exact q.elim⟩
/-! tuple(x): frozen -/
def gTuple (s : S) : List W → R W
  | [w] => match lstV s w with
    | some ws => (match frs ws with | some ds => .ok (.fr (.tup ds)) s | none => .bad)
    | none => match tupW s w with
      | some _ => .ok w s
      | none => .bad
  | _ => .bad
theorem po_newT {K : PySem.W.Frag} {κ : List Addr} {Φ H : Hp} {σ : L2.St} {s : S} {ds : List D} {xs : List V} {Q : VK} {l : Addr} (q : Po K Wx (GW K) κ Φ H σ (.ok (.fr (.tup ds)) s) Q) (I : SR K κ Φ H σ s) (r : Reps K Φ xs ds) (hl : H l = none) : Q (.ref l) (upd H l (.tup xs)) := by
  obtain ⟨hf, hk⟩ := I.fresh hl
  exact q (.ref l) κ (upd Φ l (.tup xs)) _ ((Stp.grow (Sb.new hl)).frz hl hf) ((I.grow (Sb.new hl)).frz upd_same hf hk) (rep_newT hf r)
theorem zc_tuple : ZC X (.type "tuple") gTuple := ⟨_, call_tuple_of, fun Wx κ Φ H H0 σ s vs ws Q I ga q => by
  unfold gTuple at q
  split at q
  · rename_i w
    cases ga with
    | cons a t =>
      cases t
      cases e : lstV s w with
      | some us =>
        rw [e] at q
        dsimp only at q
        obtain ⟨b, xs, rfl, h, r⟩ := lstV_ok I a e
        cases e2 : frs us with
        | none => rw [e2] at q; exact q.elim
        | some ds => rw [e2] at q; exact ⟨b, xs, rfl, .inl ⟨h, fun l hl => po_newT q I (frs_reps r e2) hl⟩⟩
      | none =>
        rw [e] at q
        dsimp only at q
        cases e : tupW s w with
        | some us => rw [e] at q; obtain ⟨b, xs, rfl, h, r⟩ := tupW_ok I a e; exact ⟨b, xs, rfl, .inr ⟨.of h, po_ret q I a⟩⟩
        | none => rw [e] at q; exact q.elim
  · exact q.elim⟩
end
/-! list + list, list * int -/
def lstO (s : S) : W → Option (List W)
  | .fr (.lst ds) => some (ds.map .fr)
  | .fr _ => none
  | .loc k => match s.st[k]? with
    | some (.lst ws) => some ws
    | some (.frz (.lst ds)) => some (ds.map .fr)
    | _ => none
theorem lstO_ok {K : PySem.W.Frag} {κ : List Addr} {Φ H : Hp} {σ : L2.St} {s : S} {v : V} {w : W} {ws : List W} (I : SR K κ Φ H σ s) (h : WAt K κ Φ v w) (e : lstO s w = some ws) : ∃ a xs, v = .ref a ∧ H a = some (.lst xs) ∧ WsAt K κ Φ xs ws := by
  have fr : ∀ d, Rep K Φ v d → (match d with | .lst ds => some (ds.map W.fr) | _ => none) = some ws → ∃ a xs, v = .ref a ∧ H a = some (.lst xs) ∧ WsAt K κ Φ xs ws := fun d h e => by
    cases h with
    | lst h1 r => cases e; exact ⟨_, _, rfl, I.sb _ _ h1, reps_ws r⟩
    | _ => cases e
  cases w with
  | fr d => exact fr d h (by cases d <;> exact e)
  | loc k =>
    obtain ⟨p, hp, rfl⟩ := h
    obtain ⟨c, hk, hc⟩ := I.cellAt hp
    unfold lstO at e
    dsimp only at e
    rw [hk] at e
    cases c with
    | lst ws' => cases e; obtain ⟨_, xs, h1, r⟩ := hc; exact ⟨p, xs, rfl, h1, r⟩
    | frz d => exact fr d hc.2 (by cases d <;> exact e)
    | _ => cases e
def catG (s2 : S) (a b : W) : R (List W) := match lstO s2 a, lstO s2 b with
  | some xs, some ys => if xs.length + ys.length ≤ sizeLine then .ok (xs ++ ys) s2 else .bad
  | _, _ => .bad
def catN (ma mb : S → R W) : S → R (List W) := fun s => (ma s).then fun a s1 => (mb s1).then fun b s2 => catG s2 a b
def repG (s2 : S) (a b : W) : R (List W) := match lstO s2 a, view s2 b with
  | some xs, some (.int k) => if -(2 ^ 63) ≤ k ∧ k < 2 ^ 63 ∧ xs.length * k.toNat ≤ sizeLine then .ok (List.replicate k.toNat xs).flatten s2 else .bad
  | _, _ => .bad
def repN (ma mb : S → R W) : S → R (List W) := fun s => (ma s).then fun a s1 => (mb s1).then fun b s2 => repG s2 a b
theorem paired_app {α β : Type} {F : α → β → Prop} : ∀ {l₁ : List α} {l₂ : List β} {m₁ : List α} {m₂ : List β}, Paired F l₁ l₂ → Paired F m₁ m₂ → Paired F (l₁ ++ m₁) (l₂ ++ m₂)
  | _, _, _, _, .nil, h => h
  | _, _, _, _, .cons a r, h => .cons a (paired_app r h)
theorem paired_rep {α β : Type} {F : α → β → Prop} {vs : List α} {ds : List β} (r : Paired F vs ds) : ∀ n : Nat, Paired F (List.replicate n vs).flatten (List.replicate n ds).flatten
  | 0 => .nil
  | n + 1 => by
    rw [List.replicate_succ, List.replicate_succ, List.flatten_cons, List.flatten_cons]
    exact paired_app r (paired_rep r n)
section
variable {X : Cx} {Wx : WX} {a b : Expr} {ma mb : S → R W} {pos : Pos}
theorem zn_cat (ha : ZE X Wx a ma) (hb : ZE X Wx b mb) : ZN X Wx (.BinOp a .Add b pos) (catN ma mb) :=
  PE.imp (pe_op op_cat ha hb) fun σ H Q ⟨κ, Φ, s, I, q⟩ => by
    refine ⟨κ, Φ, s, I, (Po.seqN (G := GW X.K) (f := fun a s1 => (mb s1).then fun b s2 => catG s2 a b) q).weak fun v H1 ⟨κ1, Φ1, s1, wa, I1, st1, g1, q1⟩ => ?_⟩
    refine ⟨κ1, Φ1, s1, I1, (Po.seqN (G := GW X.K) (f := fun b s2 => catG s2 wa b) q1).weak fun u H2 ⟨κ2, Φ2, s2, wb, I2, st2, g2, q2⟩ => ?_⟩
    unfold catG at q2
    split at q2
    · rename_i xs ys e1 e2
      split at q2
      · rename_i hl
        obtain ⟨p, us, rfl, h1, r1⟩ := lstO_ok I2 (WAt.up g1 st2) e1
        obtain ⟨p', us', rfl, h2, r2⟩ := lstO_ok I2 g2 e2
        exact ⟨p, p', us, us', rfl, rfl, h1, h2, by rw [Paired.length r1, Paired.length r2]; exact hl, fun l hl => po_new q2 I2 (paired_app r1 r2) hl⟩
      · exact q2.elim
    · exact q2.elim
theorem zn_rep (ha : ZE X Wx a ma) (hb : ZE X Wx b mb) : ZN X Wx (.BinOp a .Mult b pos) (repN ma mb) :=
  PE.imp (pe_op op_rep ha hb) fun σ H Q ⟨κ, Φ, s, I, q⟩ => by
    refine ⟨κ, Φ, s, I, (Po.seqN (G := GW X.K) (f := fun a s1 => (mb s1).then fun b s2 => repG s2 a b) q).weak fun v H1 ⟨κ1, Φ1, s1, wa, I1, st1, g1, q1⟩ => ?_⟩
    refine ⟨κ1, Φ1, s1, I1, (Po.seqN (G := GW X.K) (f := fun b s2 => repG s2 wa b) q1).weak fun u H2 ⟨κ2, Φ2, s2, wb, I2, st2, g2, q2⟩ => ?_⟩
    unfold repG at q2
    split at q2
    · rename_i xs k e1 e2
      split at q2
      · rename_i hl
        obtain ⟨p, us, rfl, h1, r1⟩ := lstO_ok I2 (WAt.up g1 st2) e1
        have e2' := vw_int (I2.vw g2 e2)
        exact ⟨p, k, us, rfl, e2', h1, hl.1, hl.2.1, by rw [Paired.length r1]; exact hl.2.2, fun l hl => po_new q2 I2 (paired_rep r1 _) hl⟩
      · exact q2.elim
    · exact q2.elim
end
end Z
namespace Z
open PySem PySem.Spec PyProof.Rows L2
/-! ### isinstance by built-in types -/
inductive Ty where | non | bl | int | str | lst | tup | dct
  deriving DecidableEq
def Ty.nm : Ty → String
  | .non => "NoneType" | .bl => "bool" | .int => "int" | .str => "str" | .lst => "list" | .tup => "tuple" | .dct => "dict"
def tyD : D → Option Ty
  | .non => some .non | .bl _ => some .bl | .int _ => some .int | .str _ => some .str | .lst _ => some .lst | .scr _ => some .lst | .tup _ => some .tup | .dk _ _ => some .dct | .dt _ _ => some .dct | .ins _ _ _ => none
def isTy (t u : Ty) : Bool := match u, t with
  | .int, .bl => true
  | .int, .int => true | .bl, .bl => true | .str, .str => true | .lst, .lst => true | .tup, .tup => true | .dct, .dct => true | .non, .non => true
  | _, _ => false
def Ty.ok : Ty → Bool | .non => false | _ => true
theorem kit_tys : ∀ t u : Ty, u.ok = true → kitB t.nm u.nm = some (isTy t u) := by
  intro t u
  cases t <;> cases u <;> first | (intro h; cases h; done) | (intro _; decide +kernel)
theorem tyx_of {K : PySem.W.Frag} {Φ H : Hp} {v : V} {d : D} {t : Ty} (sb : Sb Φ H) (h : Vw K Φ H v d) (e : tyD d = some t) : TyX K H v (.type t.nm) := by
  cases d with
  | non => cases e; rw [vw_non h]; exact .base .non
  | bl b => cases e; rw [vw_bl h]; exact .base (.bl b)
  | int i => cases e; rw [vw_int h]; exact .base (.int i)
  | str s => cases e; rw [vw_str h]; exact .base (.str s)
  | lst ds => cases e; obtain ⟨a, xs, rfl, h1, _⟩ := h; exact .base (.lst h1)
  | tup ds => cases e; obtain ⟨a, xs, rfl, h1, _⟩ := h; exact .base (.tup h1)
  | dk ks ds => cases e; obtain ⟨a, xs, rfl, h1, _⟩ := h; exact .base (.dK h1)
  | dt ks ds => cases e; obtain ⟨a, xs, rfl, h1, _⟩ := h; exact .base (.dT h1)
  | ins C ks ds => cases e
  | scr ns =>
    cases e
    cases h with
    | scr h =>
      rcases sb_sql sb h with (h | ⟨o, h⟩) | ⟨o, its, n, h1, h2, _⟩
      · exact .base (.lst h)
      · exact .base (.frz h)
      · exact .kList h1 h2
theorem kit_any {K : PySem.W.Frag} {t : Ty} : ∀ {us : List Ty}, us.all Ty.ok = true → PySem.W.kitAny K (.type t.nm) (us.map fun u => Value.type u.nm) = some (us.any fun u => isTy t u)
  | [], _ => kitAny_nil
  | u :: us, h => by
    rw [List.all_cons, Bool.and_eq_true] at h
    refine kitAny_cons (kit_ty (kit_tys t u h.1)) (fun e => ?_) fun e => ?_
    · rw [kit_any h.2, List.any_cons, e]; rfl
    · rw [List.any_cons, e]; rfl
def tyW (s : S) : W → Option Ty
  | .fr d => tyD d
  | .loc k => match s.st[k]? with
    | some (.lst _) => some .lst
    | some (.tup _) => some .tup
    | some (.dk _ _) => some .dct
    | some (.dt _ _) => some .dct
    | some (.frz d) => tyD d
    | _ => none
theorem tyW_ok {K : PySem.W.Frag} {κ : List Addr} {Φ H : Hp} {σ : L2.St} {s : S} {v : V} {w : W} {t : Ty} (I : SR K κ Φ H σ s) (h : WAt K κ Φ v w) (e : tyW s w = some t) : TyX K H v (.type t.nm) := by
  cases w with
  | fr d => exact tyx_of I.sb (Rep.vw I.sb h) e
  | loc k =>
    obtain ⟨p, hp, rfl⟩ := h
    obtain ⟨c, hk, hc⟩ := I.cellAt hp
    unfold tyW at e
    dsimp only at e
    rw [hk] at e
    cases c with
    | lst ws => cases e; obtain ⟨_, xs, h1, _⟩ := hc; exact .base (.lst h1)
    | tup ws => cases e; obtain ⟨_, xs, h1, _⟩ := hc; exact .base (.tup h1)
    | dk ks ws => cases e; obtain ⟨_, xs, h1, _⟩ := hc; exact .base (.dK h1)
    | dt ks ws => cases e; obtain ⟨_, xs, h1, _⟩ := hc; exact .base (.dT h1)
    | ins C ks ws => cases e
    | frz d => exact tyx_of I.sb (Rep.vw I.sb hc.2) e
def gIs (us : List Ty) (s : S) (w : W) : R W := match tyW s w with
  | some t => .ok (.fr (.bl (us.any fun u => isTy t u))) s
  | none => .bad
section
variable {X : Cx} {Wx : WX} {e : Expr} {m : S → R W} {p p1 p2 pos : Pos}
def isM (us : List Ty) (m : S → R W) : S → R W := fun s => (m s).then fun w s1 => gIs us s1 w
theorem gis_cases {us : List Ty} {κ : List Addr} {Φ H : Hp} {σ : L2.St} {s : S} {w : W} {Q : VK} (q : Po X.K Wx (GW X.K) κ Φ H σ (gIs us s w) Q) : ∃ t, tyW s w = some t ∧ Po X.K Wx (GW X.K) κ Φ H σ (.ok (.fr (.bl (us.any fun u => isTy t u))) s) Q := by
  unfold gIs at q
  cases e2 : tyW s w with
  | none => rw [e2] at q; exact q.elim
  | some t => rw [e2] at q; exact ⟨t, rfl, q⟩
/-- isinstance(x, T) -/
theorem ze_isi {x : Str} (u : Ty) (h : ZE X Wx e m) (hm : X.mg "isinstance" = none) (hmT : X.mg x = none) (hv : bootBuiltins x = some (.type u.nm)) (hok : u.ok = true := by rfl) (hg : Gl X "isinstance" := by rfl) (hgT : Gl X x := by rfl) (hn : x ≠ "__name__" := by decide) (hd : (x == ("__debug__" : Str)) = false := by decide)
    (hs0 : starEach [.Name x p2] X.env = (false, eval (.Name x p2) X.env) :: starEach [] X.env := by rfl) (he : starEach [e, .Name x p2] X.env = (false, eval e X.env) :: starEach [.Name x p2] X.env := by rfl) (hpl : (backTo pos (starEach [.Name x p2] X.env)).any (·.1) = false := by rfl) :
    ZE X Wx (.Call (.Name "isinstance" p1) [e, .Name x p2] [] pos) (isM [u] m) :=
  PE.imp (pe_callB call_isi hg hm boot_isinstance (pa_cons h (pa_cons (pe_bltn (v := .ty u.nm) hgT hmT hv rfl hn hd) pa_nil hs0) he) (by decide) (by decide) he hpl) fun σ H Q ⟨κ, Φ, s, I, q⟩ => by
    refine ⟨κ, Φ, s, I, (Po.seqW (f := fun w s1 => gIs [u] s1 w) q).weak fun v H1 ⟨κ1, Φ1, s1, w, I1, st, g, q1⟩ => ?_⟩
    obtain ⟨t, e2, q2⟩ := gis_cases q1
    have hr : isTy t u = [u].any fun u => isTy t u := by simp
    exact ⟨v, .ty u.nm, _, _, isTy t u, rfl, .ty _, tyW_ok I1 g e2, kit_ty (kit_tys t u hok), by rw [hr]; exact po_ret q2 I1 (Rep.bl _)⟩
/-- isinstance(x, (T, U)) -/
theorem ze_isi2 {x y : Str} {p3 p4 : Pos} {kt} (u u' : Ty) (h : ZE X Wx e m) (hm : X.mg "isinstance" = none) (hmT : X.mg x = none) (hmU : X.mg y = none) (hv : bootBuiltins x = some (.type u.nm)) (hv2 : bootBuiltins y = some (.type u'.nm)) (hok : [u, u'].all Ty.ok = true := by rfl) (hg : Gl X "isinstance" := by rfl) (hgT : Gl X x := by rfl) (hgU : Gl X y := by rfl)
    (hn : x ≠ "__name__" := by decide) (hd : (x == ("__debug__" : Str)) = false := by decide) (hn2 : y ≠ "__name__" := by decide) (hd2 : (y == ("__debug__" : Str)) = false := by decide)
    (hs0 : starEach [.Name y p3] X.env = (false, eval (.Name y p3) X.env) :: starEach [] X.env := by rfl) (hs1 : starEach [.Name x p2, .Name y p3] X.env = (false, eval (.Name x p2) X.env) :: starEach [.Name y p3] X.env := by rfl)
    (hs2 : starEach [.Tuple [.Name x p2, .Name y p3] kt p4] X.env = (false, eval (.Tuple [.Name x p2, .Name y p3] kt p4) X.env) :: starEach [] X.env := by rfl)
    (he : starEach [e, .Tuple [.Name x p2, .Name y p3] kt p4] X.env = (false, eval e X.env) :: starEach [.Tuple [.Name x p2, .Name y p3] kt p4] X.env := by rfl) (hpl : (backTo pos (starEach [.Tuple [.Name x p2, .Name y p3] kt p4] X.env)).any (·.1) = false := by rfl) :
    ZE X Wx (.Call (.Name "isinstance" p1) [e, .Tuple [.Name x p2, .Name y p3] kt p4] [] pos) (isM [u, u'] m) :=
  PE.imp (pe_callB call_isiT hg hm boot_isinstance (pa_cons h (pa_cons (pe_tup (pa_cons (pe_bltn (v := .ty u.nm) hgT hmT hv rfl hn hd) (pa_cons (pe_bltn (v := .ty u'.nm) hgU hmU hv2 rfl hn2 hd2) pa_nil hs0) hs1)) pa_nil hs2) he) (by decide) (by decide) he hpl) fun σ H Q ⟨κ, Φ, s, I, q⟩ => by
    refine ⟨κ, Φ, s, I, (Po.seqW (f := fun w s1 => gIs [u, u'] s1 w) q).weak fun v H1 ⟨κ1, Φ1, s1, w, I1, st, g, q1⟩ => ?_⟩
    obtain ⟨t, e2, q2⟩ := gis_cases q1
    refine ⟨by show 2 ≤ sizeLine; decide, fun tp htp => ?_⟩
    have sb : Sb H1 (upd H1 tp (.tup [.ty u.nm, .ty u'.nm])) := Sb.new htp
    refine ⟨v, tp, _, _, [.type u.nm, .type u'.nm], _, rfl, upd_same, .cons (.ty _) (.cons (.ty _) .nil), tyW_ok (I1.grow sb) g e2, kit_any (us := [u, u']) hok, ?_⟩
    exact q2 _ κ1 Φ1 _ (Stp.grow sb) (I1.grow sb) (Rep.bl _)
/-! ### repr -/
theorem call_reprD (hg : X.A.guards = some []) (hu : X.A.units + 64 + 2 < cLine) : CallR X (.builtin "repr") (fun vs H Q => ∃ a d, vs = [.ref a] ∧ Dp X.K H (.ref a) d ∧ d.showable = true ∧ d.shown.length ≤ sizeLine ∧ d.depth ≤ 64 ∧ d.hasDict = false ∧ Q (.str d.shown) H) := by
  intro pins s σ H xs us Q I r h
  obtain ⟨a, d, rfl, hd, h1, h2, h3, h4, q⟩ := h
  obtain ⟨u, rfl, rfl⟩ := vals1 r
  obtain ⟨as, hr⟩ := Dp.reads I d _ _ hd rfl
  exact repr_of_reads' hr h1 (PyData.noDict_hsm h4) hg (by omega) (fun _ _ e => e) (fun h' w tk hk => ⟨.str _, H, I.kept (t' := tk) hk, ⟨_, rfl⟩, q⟩) h2
theorem dp_ref {K : PySem.W.Frag} {H : Hp} {v : V} {p : PyData} (h : Dp K H v p) (e : (match p with | .list _ => true | .tuple _ => true | _ => false) = true) : ∃ a, v = .ref a := by
  cases h <;> first | exact ⟨_, rfl⟩ | cases e
def seqP : PyData → Bool
  | .list _ => true | .tuple _ => true | _ => false
def repD (d : D) : Option D := match d.py with
  | some p => if seqP p = true ∧ p.showable = true ∧ p.shown.length ≤ sizeLine ∧ p.depth ≤ 64 ∧ p.hasDict = false then some (.str p.shown) else none
  | none => none
def gRepr (s : S) : List W → R W
  | [w] => match deep s w with
    | some d => (match repD d with | some d' => .ok (.fr d') s | none => .bad)
    | none => .bad
  | _ => .bad
theorem zc_repr (hg : X.A.guards = some []) (hu : X.A.units + 64 + 2 < cLine) : ZC X (.builtin "repr") gRepr := ⟨_, call_reprD hg hu, fun Wx κ Φ H H0 σ s vs ws Q I ga q => by
  unfold gRepr at q
  split at q
  · rename_i w
    cases ga with
    | cons a t =>
      cases t
      cases e1 : deep s w with
      | none => rw [e1] at q; exact q.elim
      | some d =>
        rw [e1] at q
        dsimp only at q
        cases e2 : repD d with
        | none => rw [e2] at q; exact q.elim
        | some d' =>
          rw [e2] at q
          unfold repD at e2
          cases e3 : d.py with
          | none => rw [e3] at e2; cases e2
          | some p =>
            rw [e3] at e2
            dsimp only at e2
            split at e2
            · rename_i hp
              cases e2
              have hd := deep_ok I a e1 p e3
              obtain ⟨b, rfl⟩ := dp_ref hd (by have := hp.1; cases p <;> first | rfl | cases this)
              exact ⟨b, p, rfl, hd, hp.2.1, hp.2.2.1, hp.2.2.2.1, hp.2.2.2.2, po_ret q I (Rep.str _)⟩
            · cases e2
  · exact q.elim⟩
end
/-! == and != of data, deep -/
section
variable {X : Cx} {Wx : WX}
def eqB2 (a b : D) : Option Bool := match a, b with
  | .str x, .str y => some (decide (x = y))
  | a, b => eqB a b
def eqD2 (a b : D) : Option D := (eqB2 a b).map .bl
def neD2 (a b : D) : Option D := (eqB2 a b).map fun c => .bl (!c)
theorem dec_vstr {x y : Str} : decide (V.str x = V.str y) = decide (x = y) := by
  by_cases h : x = y
  · subst h; simp
  · rw [decide_eq_false h, decide_eq_false (fun z => h (V.str.inj z))]
theorem eqB2_cases {a b : D} {c : Bool} (h : eqB2 a b = some c) : (∃ x y, a = .str x ∧ b = .str y ∧ c = decide (x = y)) ∨ eqB a b = some c := by
  unfold eqB2 at h
  split at h
  · exact .inl ⟨_, _, rfl, rfl, (Option.some.inj h).symm⟩
  · exact .inr h
def eqG (neg : Bool) (s : S) (a b : W) : R W := match deep s a, deep s b with
  | some x, some y => (match eqB2 x y with | some c => .ok (.fr (.bl (if neg then !c else c))) s | none => .bad)
  | _, _ => .bad
theorem deep_str {K : PySem.W.Frag} {κ : List Addr} {Φ H : Hp} {σ : L2.St} {s : S} {v : V} {w : W} {x : Str} (I : SR K κ Φ H σ s) (a : WAt K κ Φ v w) (e : deep s w = some (.str x)) : v = .str x := by
  have h := deep_ok I a e (.str x) rfl
  cases h; rfl
theorem eqG_read {neg : Bool} {κ : List Addr} {Φ H : Hp} {σ : L2.St} {s : S} {x y : V} {a b : W} {Q : VK} (I : SR X.K κ Φ H σ s) (hx : WAt X.K κ Φ x a) (hy : WAt X.K κ Φ y b) (q : Po X.K Wx (GW X.K) κ Φ H σ (eqG neg s a b) Q) :
    (∃ i j, x = .str i ∧ y = .str j ∧ Q (.bl (if neg then !decide (i = j) else decide (i = j))) H) ∨ ∃ p r, Dp X.K H x p ∧ Dp X.K H y r ∧ SeqAt.shaped p = true ∧ SeqAt.shaped r = true ∧ Q (.bl (if neg then !PyData.eqv p r else PyData.eqv p r)) H := by
  unfold eqG at q
  split at q
  · rename_i d1 d2 e1 e2
    cases e3 : eqB2 d1 d2 with
    | none => rw [e3] at q; exact q.elim
    | some c =>
      rw [e3] at q
      rcases eqB2_cases e3 with ⟨z1, z2, rfl, rfl, rfl⟩ | hq
      · exact .inl ⟨z1, z2, deep_str I hx e1, deep_str I hy e2, po_ret q I (Rep.bl _)⟩
      · obtain ⟨p, r, f1, f2, s1, s2, rfl⟩ := eqB_some hq
        exact .inr ⟨p, r, deep_ok I hx e1 p f1, deep_ok I hy e2 r f2, s1, s2, po_ret q I (Rep.bl _)⟩
  · exact q.elim
theorem op_eqZ (hu : X.A.units + 64 < cLine) : OpR X (compareOp .Eq) (fun x y H Q => (∃ i j, x = .str i ∧ y = .str j ∧ Q (.bl (decide (i = j))) H) ∨ ∃ p r, Dp X.K H x p ∧ Dp X.K H y r ∧ SeqAt.shaped p = true ∧ SeqAt.shaped r = true ∧ Q (.bl (PyData.eqv p r)) H) := by
  intro pins s σ H x y v u Q I rx ry h
  rcases h with ⟨i, j, rfl, rfl, q⟩ | h
  · exact op_eq pins s σ H _ _ v u Q I rx ry ⟨rfl, by rw [dec_vstr]; exact q⟩
  · exact op_eqD hu pins s σ H _ _ v u Q I rx ry h
theorem op_neZ (hu : X.A.units + 64 < cLine) : OpR X (compareOp .NotEq) (fun x y H Q => (∃ i j, x = .str i ∧ y = .str j ∧ Q (.bl (!decide (i = j))) H) ∨ ∃ p r, Dp X.K H x p ∧ Dp X.K H y r ∧ SeqAt.shaped p = true ∧ SeqAt.shaped r = true ∧ Q (.bl (!PyData.eqv p r)) H) := by
  intro pins s σ H x y v u Q I rx ry h
  rcases h with ⟨i, j, rfl, rfl, q⟩ | h
  · exact op_ne pins s σ H _ _ v u Q I rx ry ⟨rfl, by rw [dec_vstr]; exact q⟩
  · exact op_neD hu pins s σ H _ _ v u Q I rx ry h
variable {a b : Expr} {ma mb : S → R W} {pos : Pos}
theorem po_eqG {neg : Bool} {κ : List Addr} {Φ H : Hp} {σ : L2.St} {s : S} {r : R2} {Q : VK} (hr : ∀ (κ : List Addr) (Φ H : Hp) (s : S) (x y : V) (a b : W), SR X.K κ Φ H σ s → WAt X.K κ Φ x a → WAt X.K κ Φ y b → Po X.K Wx (GW X.K) κ Φ H σ (eqG neg s a b) Q → r x y H Q)
    (I : SR X.K κ Φ H σ s) (q : Po X.K Wx (GW X.K) κ Φ H σ (bM ma mb (eqG neg) s) Q) : tOp r (tG X.K Wx (GW X.K) ma) (tG X.K Wx (GW X.K) mb) σ H Q := by
  refine ⟨κ, Φ, s, I, (Po.seqW (f := fun a s1 => (mb s1).then fun b s2 => eqG neg s2 a b) q).weak fun v H1 ⟨κ1, Φ1, s1, wa, I1, st1, g1, q1⟩ => ?_⟩
  exact ⟨κ1, Φ1, s1, I1, (Po.seqW (f := fun b s2 => eqG neg s2 wa b) q1).weak fun u H2 ⟨κ2, Φ2, s2, wb, I2, st2, g2, q2⟩ => hr _ _ _ _ _ _ _ _ I2 (WAt.up g1 st2) g2 q2⟩
theorem ze_eq (hu : X.A.units + 64 < cLine) (ha : ZE X Wx a ma) (hb : ZE X Wx b mb) (hm : behindInMarks .Eq b = false := by rfl) : ZE X Wx (.Compare a [.Eq] [b] pos) (bM ma mb (eqG false)) :=
  PE.imp (pe_cmpR (op_eqZ hu) ha hb hm) fun σ H Q ⟨κ, Φ, s, I, q⟩ => po_eqG (neg := false) (fun κ Φ H s x y a b I hx hy q => eqG_read (neg := false) I hx hy q) I q
theorem ze_ne (hu : X.A.units + 64 < cLine) (ha : ZE X Wx a ma) (hb : ZE X Wx b mb) (hm : behindInMarks .NotEq b = false := by rfl) : ZE X Wx (.Compare a [.NotEq] [b] pos) (bM ma mb (eqG true)) :=
  PE.imp (pe_cmpR (op_neZ hu) ha hb hm) fun σ H Q ⟨κ, Φ, s, I, q⟩ => po_eqG (neg := true) (fun κ Φ H s x y a b I hx hy q => eqG_read (neg := true) I hx hy q) I q
theorem zt_eq (hu : X.A.units + 64 < cLine) (ha : ZE X Wx a ma) (hb : ZE X Wx b mb) (hm : behindInMarks .Eq b = false := by rfl) : ZT X Wx (.Compare a [.Eq] [b] pos) (fun s => asB (bM ma mb (eqG false) s)) :=
  PT.imp (pt_cmpR (op_eqZ hu) ha hb hm) fun σ H Q ⟨κ, Φ, s, I, q⟩ => po_eqG (neg := false) (fun κ Φ H s x y a b I hx hy q => eqG_read (neg := false) I hx hy q) I (po_asB q)
theorem zt_ne (hu : X.A.units + 64 < cLine) (ha : ZE X Wx a ma) (hb : ZE X Wx b mb) (hm : behindInMarks .NotEq b = false := by rfl) : ZT X Wx (.Compare a [.NotEq] [b] pos) (fun s => asB (bM ma mb (eqG true) s)) :=
  PT.imp (pt_cmpR (op_neZ hu) ha hb hm) fun σ H Q ⟨κ, Φ, s, I, q⟩ => po_eqG (neg := true) (fun κ Φ H s x y a b I hx hy q => eqG_read (neg := true) I hx hy q) I (po_asB q)
end
end Z
namespace Z
open PySem PySem.Spec PyProof.Rows L2
/-! ### the law's end, for a def that needs the caller's guards -/
section
variable {P : Program} {w : World} {K : PySem.W.Frag} {mg mb : Str → Option Value} {k : Nat} {fa a : Addr} {fd : FuncData} {x : Str} {sp : Sp} {s₁ : Shared} {vs : List Value} {ns : List Int}
/-- what is told of the heap behind the top: the script, if it is no object of the module -/
noncomputable def told (K : PySem.W.Frag) (a : Addr) (o : Obj) (ns : List Int) : Hp := fun b =>
  match K.lookup a with
  | none => if b = a then some (.frz o (.lst (ns.map V.int))) else none
  | some _ => none
theorem told_some {o : Obj} {b : Addr} {u : HO} (h : told K a o ns b = some u) : b = a ∧ K.lookup a = none ∧ u = .frz o (.lst (ns.map V.int)) := by
  unfold told at h
  cases e : K.lookup a with
  | some y => rw [e] at h; cases h
  | none =>
    rw [e] at h
    dsimp only at h
    split at h
    · rename_i hb; cases h; exact ⟨hb, rfl, rfl⟩
    · cases h
theorem lawV (KX : K.In s₁.heap) (hns : s₁.heap.Ns mainGlobals mg) (hb : s₁.heap.Ns builtinsNs mb) (hbb : ∀ x : Str, x ≠ "__name__" → mb x = bootBuiltins x) (hlim : s₁.heap.NoLimit) (hg : s₁.gens = #[])
    (ha : s₁.heap.get? a = some { cls := .type "list", data := .seq vs.toArray }) (hi : IntsAre vs ns) (hl : ns.length ≤ sizeLine) (hr : Room k callerA)
    (F : ∀ base : Heap, K.In base → base.Ns mainGlobals mg → FnV true P w K mg base k fa fd [x] sp) (hbind : ∀ (s : Shared) (u : Value), BindsTo s fd ⟨[u], []⟩ [(x, u)])
    (hsp : ∀ H : Hp, SqL K H a (ns.map V.int) → (∀ b u, H b = some u → b = a ∧ ∃ o, u = .frz o (.lst (ns.map V.int))) → sp [.ref a] H (fun v _ => v = .bl true) fun _ _ _ => False) :
    codeAny (model P w) callerA (.call (.ref fa) ⟨[.ref a], []⟩) (fun r s' => r = .ok (.ret (.bool true)) ∧ OldK s₁.heap s'.heap ∧ s'.os = s₁.os ∧ AllBare s'.gens) s₁ := by
  have rv := vals_ints hi
  have nv := hi.length
  obtain ⟨T, hT⟩ : ∃ T : Hp, T = told K a { cls := .type "list", data := .seq vs.toArray } ns := ⟨_, rfl⟩
  have isA : ∀ {b u}, T b = some u → b = a ∧ K.lookup a = none ∧ u = .frz { cls := .type "list", data := .seq vs.toArray } (.lst (ns.map V.int)) := fun {b u} h => told_some (by rw [← hT]; exact h)
  have free : ∀ {b}, (b = a → False) → T b = none := fun {b} hb => by
    cases q : T b with
    | none => rfl
    | some u => exact (hb (isA q).1).elim
  have seq : SqL K T a (ns.map V.int) := by
    cases hk : K.lookup a with
    | none => exact .inl (.inr ⟨_, by rw [hT]; unfold told; rw [hk]; exact if_pos rfl⟩)
    | some o =>
      have e := KX a o hk
      rw [ha] at e
      cases e
      exact .inr ⟨_, vs.toArray, _, hk, rfl, rfl, rfl, by rw [List.size_toArray, nv]; exact hl, by simpa using rv⟩
  have hok : HOk P w T s₁.heap := fun b u z => by
    obtain ⟨rfl, _, rfl⟩ := isA z
    exact ⟨ha, by rw [List.length_map]; exact hl, vs, _, rv, ha⟩
  have stay : ∀ {b o}, s₁.heap.get? b = some o → T b = none → (hidT s₁.heap T).get? b = some o := fun e n => hidT_get e n
  have names : ∀ {b m}, s₁.heap.Ns b m → (hidT s₁.heap T).Ns b m := fun {b m} ⟨o, es, ep, e, d, r⟩ => by
    refine ⟨o, es, ep, stay e (free fun z => ?_), d, r⟩
    rw [z, ha] at e
    cases e
    have d' : Data.seq vs.toArray _ = Data.dict es ep := d
    cases d'
  have kb : K.In (hidT s₁.heap T) := fun b o e => stay (KX b o e) (by
    cases q : T b with
    | none => rfl
    | some u =>
      obtain ⟨rfl, h2, _⟩ := isA q
      rw [h2] at e; cases e)
  have e0 : Env0 P w K mg (hidT s₁.heap T) callerA [] s₁ T :=
    { frames := rfl, mod := ⟨kb, names hns, ⟨mb, names hb, hbb⟩, let ⟨mc, h1, h2⟩ := hlim; ⟨mc, names h1, h2⟩⟩, bs := fun b o e => of_hidT e, bsz := Nat.le_of_eq (hidT_size _ _), funs := trivial,
      frf := fun b hb => absurd (show b ∈ ([] : List Addr) from hb) (by simp), hok := hok, bare := .of_eq hg }
  have told' : ∀ b u, T b = some u → b = a ∧ ∃ o, u = .frz o (.lst (ns.map V.int)) := fun b u h => ⟨(isA h).1, _, (isA h).2.2⟩
  have go := (F _ kb (names hns)).run callerA [] s₁ T ⟨[.ref a], []⟩ [.ref a] [.ref a] (fun v _ => v = .bl true) (fun _ _ _ => False) hr (fun _ => rfl) e0 (hbind s₁ (.ref a)) (.cons rfl .nil) (hsp T seq told')
  refine codeAny_mono go fun r s' h => ?_
  cases r with
  | error e =>
    obtain ⟨_, _, _, _, _, _, _, _, _, _, _, _, z⟩ := (h : L2.CX P w [] T s₁ (fun _ _ _ => False) e s')
    exact z.elim
  | ok fl =>
    cases fl with
    | ret u =>
      obtain ⟨v, H', os, bare, un, hok', r', rfl⟩ := h
      obtain rfl : u = Value.bool true := r'
      refine ⟨rfl, OldK.of_keep fun b o e => ?_, os, bare⟩
      cases q : T b with
      | none => exact un.keep b o e q (fun z => absurd (show b ∈ ([] : List Addr) from z) (by simp)) (by simp)
      | some u =>
        obtain ⟨rfl, _, rfl⟩ := isA q
        obtain ⟨e2, _⟩ := hok' _ _ (un.frzs _ _ _ q)
        rw [ha] at e; cases e
        exact e2
    | next => exact False.elim h
    | brk => exact False.elim h
    | cont => exact False.elim h
/-- the script as data; nothing else is there -/
theorem script_sp {g : Sem2} (hg : ∃ st, g [.fr (.scr ns)] [] = .ok (.fr (.bl true)) st) {H : Hp} (hS : SqL K H a (ns.map V.int)) : spZ K 1 g [.ref a] H (fun v _ => v = .bl true) fun _ _ _ => False := by
  obtain ⟨st, hg⟩ := hg
  refine ⟨rfl, [], H, [.fr (.scr ns)], [], ⟨Sb.refl _, List.nodup_nil, rfl, fun k c a h => (by cases h), rfl, fun i w e => (by cases e)⟩, .cons (Rep.scr hS) .nil, ?_⟩
  rw [hg]
  intro v κ' Φ' H' st' J wv
  have wv : Rep K Φ' v (.bl true) := wv
  cases wv
  rfl
end
/-- THE END of a claim: the law's def as a function on the script -/
theorem walkV {l : PySem.W.OpenLaw} {n k : Nat} {q : Program} {loose : List Str} {XP : (Str → Option Value) → Heap → Prop} {YP : World → Heap → Prop} {d : DefRec} {K : Params → PySem.W.Frag} {x : Str} {g : Sem2}
    (hn : l.most = some n) (hn2 : n ≤ sizeLine) (hdf : d.params.defaults = []) (hr : Room k callerA) (hY : ∀ (w : World) (h : Heap), YP w h → (K w.params).In h)
    (F : ∀ (w : World) (mg : Str → Option Value) (fa : Addr) (h : Heap), (K w.params).In h → h.Ns mainGlobals mg → mg d.name = some (.ref fa) →
      ∃ fd : FuncData, (∀ (s : Shared) (u : Value), BindsTo s fd ⟨[u], []⟩ [(x, u)]) ∧ ∀ base : Heap, (K w.params).In base → base.Ns mainGlobals mg → FnV true l.prog w (K w.params) mg base k fa fd [x] (spZ (K w.params) 1 g))
    (hg : ∀ ns : List Int, ns.length ≤ n → ∃ st, g [.fr (.scr ns)] [] = .ok (.fr (.bl true)) st) : PySem.W.WalkO q loose XP YP l.row.toRowW d [] (fun f vs => PySem.call f vs) := by
  refine Att.attach_call hn hdf fun w s₀ s₁ mg mb fa o pm cd doc a vs ns G Y ho hd hcd hmg hobj hints hlen hgs => ?_
  obtain ⟨fd, hb, hF⟩ := F w mg fa _ (hY w _ Y) G.T.g hmg
  exact lawV (hY w _ Y) G.T.g G.T.b G.T.builtins G.T.nolimit hgs hobj hints (Nat.le_trans hlen hn2) hr hF hb fun H hS _ => script_sp (hg ns hlen) hS
end Z
namespace Z
open PySem PySem.Spec PyProof.Rows L2
theorem takesNo {X : Cx} : Takes X NoX := fun u s' ⟨a, B, sI, pins, σ, H, cls, d, e, I, nb, up, sky, na, os, ag, w⟩ => w.elim
theorem units66 {k : Nat} {A : Around} (r : Room k A) : A.units + 64 + 2 < cLine := by have := r.un; omega
theorem gdF {P : Prop} : (false = true) → P := fun h => nomatch h
/-- a comprehension's names within its block -/
def rlb (scope sc : Scope) : Scope :=
  { scope with names := scope.names.map fun (n, k) => if (k == .free && sc.kind == .function && sc.names.lookup n == some .cell) then (n, .cell) else (n, k) }
theorem scope_comp (scope : Scope) (cl : List (Str × Addr)) (C : Addr) (env : Env) : (compEnvC scope cl C env).scope = rlb scope env.scope := rfl
theorem zg_more {X : Cx} {tg : Expr} {bd : W → S → Option S} {vs vs' : List Nat} (h : ∀ i ∈ vs, i ∈ vs') (g : ZG X tg bd vs) : ZG X tg bd vs' :=
  PG.imp g fun v σ H Q ⟨κ, Φ, s, d, I, r, s', e, k⟩ => ⟨κ, Φ, s, d, I, r, s', e, fun σ' l o => k σ' l fun j hj => o j fun z => hj (h j z)⟩
section
variable {X : Cx} {Wx : WX} {es : List Expr} {ms : S → R (List W)} {pos : Pos}
/-- a tuple as a cell (its parts may be cells) -/
def tupL (ws : List W) (s : S) : R W := if ws.length ≤ sizeLine then .ok (.loc s.st.length) { s with st := s.st ++ [.tup ws] } else .bad
def tupLM (ms : S → R (List W)) : S → R W := fun s => (ms s).then tupL
theorem ze_tupL {x1} (h : ZA X Wx es ms) : ZE X Wx (.Tuple es x1 pos) (tupLM ms) :=
  PE.imp (pe_tup h) fun σ H Q ⟨κ, Φ, s, I, q⟩ => by
    refine ⟨κ, Φ, s, I, (Po.seqW (G := GA X.K) (f := tupL) q).weak fun vs H1 ⟨κ1, Φ1, s1, ws, I1, st, r, q1⟩ => ?_⟩
    unfold tupL at q1
    split at q1
    · rename_i hl
      refine ⟨by rw [Paired.length r]; exact hl, fun p hp => ?_⟩
      have e : Sb H1 (upd H1 p (.tup vs)) := Sb.new hp
      obtain ⟨hf, hk⟩ := I1.fresh hp
      refine q1 (.ref p) (κ1 ++ [p]) Φ1 _ ((Stp.grow e).cell hp) ((I1.grow e).cell hk ⟨hf, vs, upd_same, r⟩) ⟨p, ?_, rfl⟩
      rw [List.getElem?_append_right (by rw [I1.len]; exact Nat.le_refl _), I1.len]
      simp
    · exact q1.elim
end
end Z
namespace Z
open PySem PySem.Spec PyProof.Rows L2
/-! ### reading meanings -/
section
variable {α β : Type}
theorem then_ok' (a : α) (s : S) (f : α → S → R β) : (R.ok a s).then f = f a s := rfl
theorem toS_ok (a : α) (s : S) (f : α → S → RS) : (R.ok a s).toS f = f a s := rfl
theorem noEr_ok (env : List (Option W)) (a : α) (s : S) : noEr env (.ok a s) = .ok a { s with env := env } := rfl
end
theorem seqC_nx {c c' : S → RS} {s s' : S} (h : c s = .nx s') : seqC c c' s = c' s' := by unfold seqC; rw [h]
theorem seqC_rt {c c' : S → RS} {s s' : S} {w : W} (h : c s = .rt w s') : seqC c c' s = .rt w s' := by unfold seqC; rw [h]
theorem seqC_er {c c' : S → RS} {s s' : S} {e : Err} (h : c s = .er e s') : seqC c c' s = .er e s' := by unfold seqC; rw [h]
theorem vM_ok {i : Nat} {s : S} {w : W} (h : s.env[i]? = some (some w)) : vM i s = .ok w s := by unfold vM; rw [h]
/-! comprehensions -/
theorem fx_get (ws : List W) (s : S) (i : Nat) : Src.get (.fx ws) s i = some ws[i]? := rfl
theorem fx_len (ws : List W) (s : S) : Src.len (.fx ws) s = ws.length := rfl
/-- with an invariant on the cells -/
theorem lcGo_inv {ws : List W} {bd : W → S → Option S} {mt : S → R Bool} {me : S → R W} {E0 : List (Option W)} (I : List Cell → Prop) (P : W → Option W → Prop)
    (h : ∀ w ∈ ws, ∀ st, I st → ∃ s1, bd w ⟨E0, st⟩ = some s1 ∧ ((∃ s2, mt s1 = .ok false s2 ∧ I s2.st ∧ P w none) ∨ ∃ s2 y s3, mt s1 = .ok true s2 ∧ me s2 = .ok y s3 ∧ I s3.st ∧ P w (some y))) :
    ∀ (n i : Nat) (acc : List W) (s : S), ws.length = i + n → acc.length + n ≤ sizeLine → I s.st → ∃ os s', lcGo (.fx ws) bd mt me E0 n i acc s = .ok (acc ++ os.filterMap id) s' ∧ I s'.st ∧ Paired P (ws.drop i) os := by
  intro n
  induction n with
  | zero =>
    intro i acc s hl ha hI
    refine ⟨[], s, ?_, hI, ?_⟩
    · unfold lcGo
      rw [fx_get, List.getElem?_eq_none (by omega)]
      simp
    · rw [List.drop_of_length_le (by omega)]; exact .nil
  | succ n ih =>
    intro i acc s hl ha hI
    have hi : i < ws.length := by omega
    obtain ⟨s1, e1, h1⟩ := h ws[i] (List.getElem_mem hi) s.st hI
    have hd : ws.drop i = ws[i] :: ws.drop (i + 1) := List.drop_eq_getElem_cons hi
    rcases h1 with ⟨s2, e2, hI2, p⟩ | ⟨s2, y, s3, e2, e3, hI3, p⟩
    · obtain ⟨os, s', q, hI', hp⟩ := ih (i + 1) acc s2 (by omega) (by omega) hI2
      refine ⟨none :: os, s', ?_, hI', by rw [hd]; exact .cons p hp⟩
      unfold lcGo
      rw [fx_get, List.getElem?_eq_getElem hi]
      dsimp only
      rw [e1]
      dsimp only
      rw [e2, then_ok', if_neg Bool.false_ne_true, q]
      rfl
    · obtain ⟨os, s', q, hI', hp⟩ := ih (i + 1) (acc ++ [y]) s3 (by omega) (by simp; omega) hI3
      refine ⟨some y :: os, s', ?_, hI', by rw [hd]; exact .cons p hp⟩
      unfold lcGo
      rw [fx_get, List.getElem?_eq_getElem hi]
      dsimp only
      rw [e1]
      dsimp only
      rw [e2, then_ok', if_pos rfl, e3, then_ok', if_pos (by omega), q]
      simp
/-- all items, an invariant on the cells -/
theorem lcM_inv {mi : S → R Src} {bd : W → S → Option S} {mt : S → R Bool} {me : S → R W} {vs : List Nat} {s s0 : S} {ws : List W} (I : List Cell → Prop) (P : W → Option W → Prop) (hi : mi s = .ok (.fx ws) s0) (hl : ws.length ≤ sizeLine) (hI : I s0.st)
    (h : ∀ w ∈ ws, ∀ st, I st → ∃ s1, bd w ⟨wipeW s0.env vs, st⟩ = some s1 ∧ ((∃ s2, mt s1 = .ok false s2 ∧ I s2.st ∧ P w none) ∨ ∃ s2 y s3, mt s1 = .ok true s2 ∧ me s2 = .ok y s3 ∧ I s3.st ∧ P w (some y))) :
    ∃ os st', lcM mi bd mt me vs s = .ok (os.filterMap id) ⟨s0.env, st'⟩ ∧ I st' ∧ Paired P ws os := by
  obtain ⟨os, s', q, hI', hp⟩ := lcGo_inv I P h ws.length 0 [] s0 (by omega) (by simpa using hl) hI
  refine ⟨os, s'.st, ?_, hI', by simpa using hp⟩
  unfold lcM lcF
  rw [hi, then_ok', fx_len, q, noEr_ok]
  rfl
theorem paired_fn {α β : Type} {f : α → β} : ∀ {ws : List α} {os : List β}, Paired (fun w o => f w = o) ws os → os = ws.map f
  | _, _, .nil => rfl
  | _, _, .cons a r => by rw [List.map_cons, ← a, ← paired_fn r]
/-- pure: the cells stay -/
theorem lcM_pure {mi : S → R Src} {bd : W → S → Option S} {mt : S → R Bool} {me : S → R W} {vs : List Nat} {s s0 : S} {ws : List W} (f : W → Option W) (hi : mi s = .ok (.fx ws) s0) (hl : ws.length ≤ sizeLine)
    (h : ∀ w ∈ ws, ∃ s1, bd w ⟨wipeW s0.env vs, s0.st⟩ = some s1 ∧ ((∃ s2, mt s1 = .ok false s2 ∧ s2.st = s0.st ∧ f w = none) ∨ ∃ s2 y s3, mt s1 = .ok true s2 ∧ me s2 = .ok y s3 ∧ s3.st = s0.st ∧ f w = some y)) :
    lcM mi bd mt me vs s = .ok (ws.filterMap f) s0 := by
  obtain ⟨os, st', q, e, hp⟩ := lcM_inv (fun st => st = s0.st) (fun w o => f w = o) hi hl rfl fun w hw st e => by subst e; exact h w hw
  have : os = ws.map f := paired_fn hp
  rw [q, this, e, List.filterMap_map]
  rfl
/-- pure, every item taken -/
theorem lcM_map {mi : S → R Src} {bd : W → S → Option S} {me : S → R W} {vs : List Nat} {s s0 : S} {ws : List W} (f : W → W) (hi : mi s = .ok (.fx ws) s0) (hl : ws.length ≤ sizeLine)
    (h : ∀ w ∈ ws, ∃ s1 s3, bd w ⟨wipeW s0.env vs, s0.st⟩ = some s1 ∧ me s1 = .ok (f w) s3 ∧ s3.st = s0.st) :
    lcM mi bd yesM me vs s = .ok (ws.map f) s0 := by
  rw [lcM_pure (fun w => some (f w)) hi hl fun w hw => by
    obtain ⟨s1, s3, e1, e2, e3⟩ := h w hw
    exact ⟨s1, e1, .inr ⟨s1, f w, s3, rfl, e2, e3, rfl⟩⟩]
  show R.ok (ws.filterMap (some ∘ f)) s0 = _
  rw [List.filterMap_eq_map]
/-! loops -/
theorem forGo_inv {ws : List W} {bd : W → S → Option S} {c : S → RS} (I : Nat → S → Prop)
    (h : ∀ i w s, ws[i]? = some w → I i s → ∃ s1 s2, bd w s = some s1 ∧ (c s1 = .nx s2 ∨ c s1 = .ct s2) ∧ I (i + 1) s2) :
    ∀ (n i : Nat) (s : S), ws.length = i + n → I i s → ∃ s', forGo (.fx ws) bd c n i s = .nx s' ∧ I ws.length s' := by
  intro n
  induction n with
  | zero =>
    intro i s hl hI
    refine ⟨s, ?_, by rw [hl]; exact hI⟩
    unfold forGo
    rw [fx_get, List.getElem?_eq_none (by omega)]
  | succ n ih =>
    intro i s hl hI
    have hi : i < ws.length := by omega
    obtain ⟨s1, s2, e1, e2, hI2⟩ := h i ws[i] s (List.getElem?_eq_getElem hi) hI
    obtain ⟨s', q, hI'⟩ := ih (i + 1) s2 (by omega) hI2
    refine ⟨s', ?_, hI'⟩
    unfold forGo
    rw [fx_get, List.getElem?_eq_getElem hi]
    dsimp only
    rw [e1]
    dsimp only
    rcases e2 with e2 | e2 <;> (rw [e2]; exact q)
theorem forF_inv {ws : List W} {bd : W → S → Option S} {c : S → RS} {s : S} (I : Nat → S → Prop) (h0 : I 0 s)
    (h : ∀ i w s, ws[i]? = some w → I i s → ∃ s1 s2, bd w s = some s1 ∧ (c s1 = .nx s2 ∨ c s1 = .ct s2) ∧ I (i + 1) s2) : ∃ s', forF (.fx ws) bd c s = .nx s' ∧ I ws.length s' :=
  forGo_inv I h ws.length 0 s (by omega) h0
/-- over a cell whose length stays -/
theorem forGo_lv {k m : Nat} {bd : W → S → Option S} {c : S → RS} (I : Nat → S → Prop)
    (hk : ∀ i s, I i s → ∃ ws, s.st[k]? = some (.lst ws) ∧ ws.length = m)
    (h : ∀ i w s ws, s.st[k]? = some (.lst ws) → ws[i]? = some w → I i s → ∃ s1 s2, bd w s = some s1 ∧ (c s1 = .nx s2 ∨ c s1 = .ct s2) ∧ I (i + 1) s2) :
    ∀ (n i : Nat) (s : S), m = i + n → I i s → ∃ s', forGo (.lv k) bd c n i s = .nx s' ∧ I m s' := by
  intro n
  induction n with
  | zero =>
    intro i s hl hI
    refine ⟨s, ?_, by rw [hl]; exact hI⟩
    obtain ⟨ws, e, l⟩ := hk i s hI
    unfold forGo Src.get
    dsimp only
    rw [e]
    dsimp only
    rw [List.getElem?_eq_none (by omega)]
  | succ n ih =>
    intro i s hl hI
    obtain ⟨ws, e, l⟩ := hk i s hI
    have hi : i < ws.length := by omega
    obtain ⟨s1, s2, e1, e2, hI2⟩ := h i ws[i] s ws e (List.getElem?_eq_getElem hi) hI
    obtain ⟨s', q, hI'⟩ := ih (i + 1) s2 (by omega) hI2
    refine ⟨s', ?_, hI'⟩
    unfold forGo
    have eg : Src.get (.lv k) s i = some ws[i]? := by unfold Src.get; dsimp only; rw [e]
    rw [eg, List.getElem?_eq_getElem hi]
    dsimp only
    rw [e1]
    dsimp only
    rcases e2 with e2 | e2 <;> (rw [e2]; exact q)
theorem forF_lv {k : Nat} {ws0 : List W} {bd : W → S → Option S} {c : S → RS} {s : S} (I : Nat → S → Prop) (e : s.st[k]? = some (.lst ws0)) (h0 : I 0 s)
    (hk : ∀ i s, I i s → ∃ ws, s.st[k]? = some (.lst ws) ∧ ws.length = ws0.length)
    (h : ∀ i w s ws, s.st[k]? = some (.lst ws) → ws[i]? = some w → I i s → ∃ s1 s2, bd w s = some s1 ∧ (c s1 = .nx s2 ∨ c s1 = .ct s2) ∧ I (i + 1) s2) : ∃ s', forF (.lv k) bd c s = .nx s' ∧ I ws0.length s' := by
  have : Src.len (.lv k) s = ws0.length := by unfold Src.len; dsimp only; rw [e]
  unfold forF
  rw [this]
  exact forGo_lv I hk h ws0.length 0 s (by omega) h0
/-! the end of a def -/
theorem cut_fr' (d : D) (st : List Cell) : cutF st.length (.ok (.fr d) st) = .ok (.fr d) st := by
  unfold cutF
  dsimp only
  rw [List.take_length]
  split <;> rfl
theorem view_fr (s : S) (d : D) : view s (.fr d) = some d := rfl
theorem truW_fr (s : S) (d : D) : truW s (.fr d) = truD d := rfl
theorem ixW_fr (s : S) (d j : D) : ixW s (.fr d) j = (ixD d j).map .fr := rfl
theorem lenW_fr (s : S) (d : D) : lenW s (.fr d) = lenD d := rfl
theorem tyW_fr (s : S) (d : D) : tyW s (.fr d) = tyD d := rfl
theorem lstV_fr (s : S) (d : D) : lstV s (.fr d) = lstF d := rfl
theorem srcW_fr (s : S) (d : D) : srcW s (.fr d) = (itemsD d).map .ds := rfl
theorem deep_fr (s : S) (d : D) : deepN s 8 (.fr d) = some d := rfl
theorem vM_eq (i : Nat) (env : List (Option W)) (st : List Cell) : vM i ⟨env, st⟩ = match env[i]? with | some (some w) => .ok w ⟨env, st⟩ | _ => .bad := rfl
theorem iop_int (C : Int → Int → Bool) (f : Int → Int → D) (i j : Int) : iop C f (.int i) (.int j) = if C i j = true then some (f i j) else none := rfl
theorem isN_non : isN (.fr .non) = true := rfl
theorem isN_int (i : Int) : isN (.fr (.int i)) = false := rfl
theorem isN_lst (i : List D) : isN (.fr (.lst i)) = false := rfl
theorem asB_bl (b : Bool) (s : S) : asB (.ok (.fr (.bl b)) s) = .ok b s := rfl
theorem addD_int (i j : Int) : addD (.int i) (.int j) = some (.int (i + j)) := rfl
theorem startS_eq (n : Nat) (ws : List W) (st : List Cell) : startS n ws st = ⟨ws.map some ++ List.replicate (n - ws.length) none, st⟩ := rfl
/-! over a range, over items, with one name -/
def rngW (n : Nat) : List W := ((List.range n).map fun i => D.int (0 + (i : Nat))).map W.fr
theorem rngW_length (n : Nat) : (rngW n).length = n := by simp [rngW]
theorem rngW_eq (n : Nat) : rngW n = (List.range n).map fun i => W.fr (.int (i : Nat)) := by
  unfold rngW
  rw [List.map_map]
  refine List.map_congr_left fun i _ => ?_
  show W.fr (.int (0 + (i : Nat))) = _
  rw [Int.zero_add]
theorem rngI1_ok {ms : S → R (List W)} {s s0 : S} {n : Nat} (h : ms s = .ok [.fr (.int n)] s0) (hn : n < 2 ^ 62) : rngI1 ms s = .ok (.fx (rngW n)) s0 := by
  have h2 : -(2 ^ 62 : Int) ≤ (n : Int) ∧ (n : Int) < 2 ^ 62 := ⟨by omega, by omega⟩
  unfold rngI1
  rw [h, then_ok']
  show (if -(2 ^ 62 : Int) ≤ (n : Int) ∧ (n : Int) < 2 ^ 62 then R.ok (Src.ds ((List.range (n : Int).toNat).map fun i => D.int (0 + (i : Nat)))) s0 else R.bad) = _
  rw [if_pos h2, Int.toNat_natCast]
  rfl
theorem seqI_fr {m : S → R W} {s s0 : S} {d : D} {ds : List D} (h : m s = .ok (.fr d) s0) (hd : itemsD d = some ds) : seqI m s = .ok (.fx (ds.map .fr)) s0 := by
  unfold seqI
  rw [h, then_ok', srcW_fr, hd]
  rfl
theorem lcGo_pureG {α : Type} {xs : List α} {bd : W → S → Option S} {mt : S → R Bool} {me : S → R W} {E0 : List (Option W)} {st : List Cell} (e : α → W) (g : α → Option W)
    (h : ∀ x ∈ xs, ∃ s1, bd (e x) ⟨E0, st⟩ = some s1 ∧ ((∃ s2, mt s1 = .ok false s2 ∧ s2.st = st ∧ g x = none) ∨ ∃ s2 y s3, mt s1 = .ok true s2 ∧ me s2 = .ok y s3 ∧ s3.st = st ∧ g x = some y)) :
    ∀ (n i : Nat) (acc : List W) (s : S), xs.length = i + n → acc.length + n ≤ sizeLine → s.st = st → ∃ s', lcGo (.fx (xs.map e)) bd mt me E0 n i acc s = .ok (acc ++ (xs.drop i).filterMap g) s' ∧ s'.st = st := by
  intro n
  induction n with
  | zero =>
    intro i acc s hl ha hI
    refine ⟨s, ?_, hI⟩
    unfold lcGo
    rw [fx_get, List.getElem?_eq_none (by rw [List.length_map]; omega), List.drop_of_length_le (by omega)]
    simp
  | succ n ih =>
    intro i acc s hl ha hI
    have hi : i < xs.length := by omega
    have hi2 : i < (xs.map e).length := by rw [List.length_map]; exact hi
    obtain ⟨s1, e1, h1⟩ := h xs[i] (List.getElem_mem hi)
    have hd : xs.drop i = xs[i] :: xs.drop (i + 1) := List.drop_eq_getElem_cons hi
    have eg : (xs.map e)[i]? = some (e xs[i]) := by rw [List.getElem?_map, List.getElem?_eq_getElem hi]; rfl
    rcases h1 with ⟨s2, e2, hI2, p⟩ | ⟨s2, y, s3, e2, e3, hI3, p⟩
    · obtain ⟨s', q, hI'⟩ := ih (i + 1) acc s2 (by omega) (by omega) hI2
      refine ⟨s', ?_, hI'⟩
      unfold lcGo
      rw [fx_get, eg]
      dsimp only
      rw [hI, e1]
      dsimp only
      rw [e2, then_ok', if_neg Bool.false_ne_true, q, hd, List.filterMap_cons, p]
    · obtain ⟨s', q, hI'⟩ := ih (i + 1) (acc ++ [y]) s3 (by omega) (by simp; omega) hI3
      refine ⟨s', ?_, hI'⟩
      unfold lcGo
      rw [fx_get, eg]
      dsimp only
      rw [hI, e1]
      dsimp only
      rw [e2, then_ok', if_pos rfl, e3, then_ok', if_pos (by omega), q, hd, List.filterMap_cons, p]
      simp
theorem lcM_pureG {α : Type} {mi : S → R Src} {bd : W → S → Option S} {mt : S → R Bool} {me : S → R W} {vs : List Nat} {s s0 : S} {xs : List α} (e : α → W) (g : α → Option W) (hi : mi s = .ok (.fx (xs.map e)) s0) (hl : xs.length ≤ sizeLine)
    (h : ∀ x ∈ xs, ∃ s1, bd (e x) ⟨wipeW s0.env vs, s0.st⟩ = some s1 ∧ ((∃ s2, mt s1 = .ok false s2 ∧ s2.st = s0.st ∧ g x = none) ∨ ∃ s2 y s3, mt s1 = .ok true s2 ∧ me s2 = .ok y s3 ∧ s3.st = s0.st ∧ g x = some y)) :
    lcM mi bd mt me vs s = .ok (xs.filterMap g) s0 := by
  obtain ⟨s', q, hI'⟩ := lcGo_pureG e g h xs.length 0 [] s0 (by omega) (by simpa using hl) rfl
  unfold lcM lcF
  rw [hi, then_ok', fx_len, List.length_map, q, noEr_ok, hI']
  rfl
theorem lcM_mapG {α : Type} {mi : S → R Src} {bd : W → S → Option S} {me : S → R W} {vs : List Nat} {s s0 : S} {xs : List α} (e : α → W) (g : α → W) (hi : mi s = .ok (.fx (xs.map e)) s0) (hl : xs.length ≤ sizeLine)
    (h : ∀ x ∈ xs, ∃ s1 s3, bd (e x) ⟨wipeW s0.env vs, s0.st⟩ = some s1 ∧ me s1 = .ok (g x) s3 ∧ s3.st = s0.st) :
    lcM mi bd yesM me vs s = .ok (xs.map g) s0 := by
  rw [lcM_pureG e (fun x => some (g x)) hi hl fun x hx => by
    obtain ⟨s1, s3, e1, e2, e3⟩ := h x hx
    exact ⟨s1, e1, .inr ⟨s1, g x, s3, rfl, e2, e3, rfl⟩⟩]
  show R.ok (xs.filterMap (some ∘ g)) s0 = _
  rw [List.filterMap_eq_map]
/-- with an invariant on the cells, items by what they come from -/
theorem lcM_invG {α β : Type} {mi : S → R Src} {bd : W → S → Option S} {me : S → R W} {vs : List Nat} {s s0 : S} {xs : List α} (e : α → W) (f : β → W) (I : List Cell → Prop) (P : α → β → Prop) (hi : mi s = .ok (.fx (xs.map e)) s0) (hl : xs.length ≤ sizeLine) (hI : I s0.st)
    (h : ∀ x ∈ xs, ∀ st, I st → ∃ s1 y s3, bd (e x) ⟨wipeW s0.env vs, st⟩ = some s1 ∧ me s1 = .ok (f y) s3 ∧ I s3.st ∧ P x y) :
    ∃ ys st', lcM mi bd yesM me vs s = .ok (ys.map f) ⟨s0.env, st'⟩ ∧ I st' ∧ Paired P xs ys := by
  have main : ∀ (n i : Nat) (acc : List W) (s : S), xs.length = i + n → acc.length + n ≤ sizeLine → I s.st → ∃ ys s', lcGo (.fx (xs.map e)) bd yesM me (wipeW s0.env vs) n i acc s = .ok (acc ++ ys.map f) s' ∧ I s'.st ∧ Paired P (xs.drop i) ys := by
    intro n
    induction n with
    | zero =>
      intro i acc s hl ha hI
      refine ⟨[], s, ?_, hI, by rw [List.drop_of_length_le (by omega)]; exact .nil⟩
      unfold lcGo
      rw [fx_get, List.getElem?_eq_none (by rw [List.length_map]; omega)]
      simp
    | succ n ih =>
      intro i acc s hl ha hI
      have hi : i < xs.length := by omega
      obtain ⟨s1, y, s3, e1, e3, hI3, p⟩ := h xs[i] (List.getElem_mem hi) s.st hI
      have eg : (xs.map e)[i]? = some (e xs[i]) := by rw [List.getElem?_map, List.getElem?_eq_getElem hi]; rfl
      obtain ⟨ys, s', q, hI', hp⟩ := ih (i + 1) (acc ++ [f y]) s3 (by omega) (by simp; omega) hI3
      refine ⟨y :: ys, s', ?_, hI', by rw [List.drop_eq_getElem_cons hi]; exact .cons p hp⟩
      unfold lcGo
      rw [fx_get, eg]
      dsimp only
      rw [e1]
      dsimp only
      rw [yesM, then_ok', if_pos rfl, e3, then_ok', if_pos (by omega)]
      rw [q]
      simp
  obtain ⟨ys, s', q, hI', hp⟩ := main xs.length 0 [] s0 (by omega) (by simpa using hl) hI
  refine ⟨ys, s'.st, ?_, hI', by simpa using hp⟩
  unfold lcM lcF
  rw [hi, then_ok', fx_len, List.length_map, q, noEr_ok]
  rfl
theorem cells_app {st : List Cell} {x : Cell} {m : Nat} (h : st.length = m) : (st ++ [x])[m]? = some x := by subst h; simp
theorem cells_set {st : List Cell} {x y : Cell} {m : Nat} (h : st.length = m) : (st ++ [x]).set m y = st ++ [y] := by subst h; simp
/-! what refers to nothing beyond -/
def Closed (st : List Cell) : Prop := (st.all fun c => (kids c).all (fitW st.length)) = true
theorem cut_app {m : Nat} {d : D} {st more : List Cell} (hc : Closed st) (hm : st.length = m) : cutF m (.ok (.fr d) (st ++ more)) = .ok (.fr d) st := by
  subst hm
  unfold cutF
  dsimp only
  rw [List.take_left]
  unfold Closed at hc
  rw [hc]
  rfl
theorem Closed.nil : Closed [] := rfl
theorem fitW_up {m m' : Nat} (h : m ≤ m') {w : W} (f : fitW m w = true) : fitW m' w = true := by
  cases w with
  | fr d => rfl
  | loc k => simp [fitW] at f ⊢; omega
theorem Closed.app {st : List Cell} {c : Cell} (h : Closed st) (hc : (kids c).all (fitW (st.length + 1)) = true) : Closed (st ++ [c]) := by
  unfold Closed at h ⊢
  rw [List.length_append, List.length_singleton, List.all_append, Bool.and_eq_true]
  refine ⟨?_, by simpa using hc⟩
  rw [List.all_eq_true] at h ⊢
  intro x hx
  have := h x hx
  rw [List.all_eq_true] at this ⊢
  exact fun w hw => fitW_up (Nat.le_succ _) (this w hw)
theorem Closed.set {st : List Cell} {c : Cell} {k : Nat} (h : Closed st) (hc : (kids c).all (fitW st.length) = true) : Closed (st.set k c) := by
  unfold Closed at h ⊢
  rw [List.length_set]
  rw [List.all_eq_true] at h ⊢
  intro x hx
  rcases List.mem_or_eq_of_mem_set hx with z | z
  · exact h x z
  · rw [z]; exact hc
theorem fits_fr (m : Nat) (ds : List D) : (ds.map W.fr).all (fitW m) = true := by
  rw [List.all_eq_true]
  intro w hw
  obtain ⟨d, _, rfl⟩ := List.mem_map.mp hw
  rfl
theorem frz1_lst {st : List Cell} {env : List (Option W)} {k : Nat} {ds : List D} (h : st[k]? = some (.lst (ds.map W.fr))) : frz1 (.loc k) ⟨env, st⟩ = .ok (.lst ds) ⟨env, st.set k (.frz (.lst ds))⟩ := by
  unfold frz1 frzN
  dsimp only
  rw [h]
  dsimp only
  rw [show kids (.lst (ds.map W.fr)) = ds.map W.fr from rfl, frzL_frN, then_ok']
  unfold frzC
  dsimp only
  rw [h]
  rfl
/-! every item a new cell -/
theorem lcM_cells {α : Type} {mi : S → R Src} {bd : W → S → Option S} {me : S → R W} {vs : List Nat} {s s0 : S} {xs : List α} (e : α → W) (g : α → List W) (hi : mi s = .ok (.fx (xs.map e)) s0) (hl : xs.length ≤ sizeLine)
    (h : ∀ x ∈ xs, ∀ st, ∃ s1 s3, bd (e x) ⟨wipeW s0.env vs, st⟩ = some s1 ∧ me s1 = .ok (.loc st.length) s3 ∧ s3.st = st ++ [.lst (g x)]) :
    lcM mi bd yesM me vs s = .ok ((List.range xs.length).map fun i => W.loc (s0.st.length + i)) ⟨s0.env, s0.st ++ xs.map fun x => Cell.lst (g x)⟩ := by
  have main : ∀ (n i : Nat) (acc : List W) (s : S), xs.length = i + n → acc.length + n ≤ sizeLine → ∃ s', lcGo (.fx (xs.map e)) bd yesM me (wipeW s0.env vs) n i acc s = .ok (acc ++ (List.range n).map fun j => W.loc (s.st.length + j)) s' ∧ s'.st = s.st ++ (xs.drop i).map fun x => Cell.lst (g x) := by
    intro n
    induction n with
    | zero =>
      intro i acc s hl ha
      refine ⟨s, ?_, by rw [List.drop_of_length_le (by omega)]; simp⟩
      unfold lcGo
      rw [fx_get, List.getElem?_eq_none (by rw [List.length_map]; omega)]
      simp
    | succ n ih =>
      intro i acc s hl ha
      have hi : i < xs.length := by omega
      obtain ⟨s1, s3, e1, e3, h3⟩ := h xs[i] (List.getElem_mem hi) s.st
      have eg : (xs.map e)[i]? = some (e xs[i]) := by rw [List.getElem?_map, List.getElem?_eq_getElem hi]; rfl
      obtain ⟨s', q, hI'⟩ := ih (i + 1) (acc ++ [.loc s.st.length]) s3 (by omega) (by simp; omega)
      refine ⟨s', ?_, ?_⟩
      · unfold lcGo
        rw [fx_get, eg]
        dsimp only
        rw [e1]
        dsimp only
        rw [yesM, then_ok', if_pos rfl, e3, then_ok', if_pos (by omega)]
        have en : [W.loc s.st.length] ++ (List.range n).map (fun j => W.loc (s3.st.length + j)) = (List.range (n + 1)).map fun j => W.loc (s.st.length + j) := by
          rw [List.range_succ_eq_map, List.map_cons, List.map_map, h3]
          show W.loc s.st.length :: _ = W.loc (s.st.length + 0) :: _
          congr 1
          refine List.map_congr_left fun j _ => ?_
          show W.loc ((s.st ++ [Cell.lst (g xs[i])]).length + j) = W.loc (s.st.length + (j + 1))
          rw [List.length_append]
          congr 1
          simp
          omega
        rw [q, List.append_assoc, en]
      · rw [hI', h3, List.drop_eq_getElem_cons hi, List.map_cons, List.append_assoc]
        rfl
  obtain ⟨s', q, hI'⟩ := main xs.length 0 [] s0 (by omega) (by simpa using hl)
  unfold lcM lcF
  rw [hi, then_ok', fx_len, List.length_map, q, noEr_ok, hI']
  simp
/-! all are True -/
theorem allD_true (n : Nat) : allD (.lst (List.replicate n (.bl true))) = some (.bl true) := by
  have h : List.replicate n (D.bl true) = (List.replicate n true).map D.bl := by rw [List.map_replicate]
  unfold allD lstB
  rw [h]
  dsimp only
  rw [allBs_map]
  simp
theorem lcM_true {α : Type} {mi : S → R Src} {bd : W → S → Option S} {me : S → R W} {vs : List Nat} {s s0 : S} {xs : List α} (e : α → W) (hi : mi s = .ok (.fx (xs.map e)) s0) (hl : xs.length ≤ sizeLine)
    (h : ∀ x ∈ xs, ∃ s1 s3, bd (e x) ⟨wipeW s0.env vs, s0.st⟩ = some s1 ∧ me s1 = .ok (.fr (.bl true)) s3 ∧ s3.st = s0.st) :
    lcM mi bd yesM me vs s = .ok ((List.replicate xs.length (D.bl true)).map W.fr) s0 := by
  rw [lcM_mapG e (fun _ => .fr (.bl true)) hi hl h, List.map_const', List.map_replicate]
theorem lcGo_true {α : Type} {xs : List α} {bd : W → S → Option S} {me : S → R W} {E0 : List (Option W)} {st : List Cell} (e : α → W)
    (h : ∀ x ∈ xs, ∃ s1 s3, bd (e x) ⟨E0, st⟩ = some s1 ∧ me s1 = .ok (.fr (.bl true)) s3 ∧ s3.st = st) (m : Nat) (s : S) (hs : s.st = st) (hm : m + xs.length ≤ sizeLine) :
    ∃ s', lcGo (.fx (xs.map e)) bd yesM me E0 xs.length 0 ((List.replicate m (D.bl true)).map W.fr) s = .ok ((List.replicate (m + xs.length) (D.bl true)).map W.fr) s' ∧ s'.st = st := by
  obtain ⟨s', q, h'⟩ := lcGo_pureG (mt := yesM) (me := me) e (fun _ => some (.fr (.bl true))) (fun x hx => by
    obtain ⟨s1, s3, e1, e2, e3⟩ := h x hx
    exact ⟨s1, e1, .inr ⟨s1, _, s3, rfl, e2, e3, rfl⟩⟩) xs.length 0 ((List.replicate m (D.bl true)).map W.fr) s (by omega) (by simpa using hm) hs
  refine ⟨s', ?_, h'⟩
  rw [q]
  have : xs.filterMap (fun _ => some (W.fr (.bl true))) = xs.map fun _ => W.fr (.bl true) := by
    show xs.filterMap (some ∘ fun _ => W.fr (.bl true)) = _
    rw [List.filterMap_eq_map]
  rw [List.drop_zero, this, List.map_const', List.map_replicate, List.map_replicate, List.replicate_append_replicate]
theorem lc2M_true {α β : Type} {mi mi1 : S → R Src} {bd bd1 : W → S → Option S} {me : S → R W} {vs vs1 : List Nat} {s s0 : S} {xs : List α} (e : α → W) (ys : α → List β) (e1 : α → β → W) (b : Nat) (hi : mi s = .ok (.fx (xs.map e)) s0) (hl : xs.length * b ≤ sizeLine)
    (h : ∀ x ∈ xs, (ys x).length ≤ b ∧ ∃ s1 s2, bd (e x) ⟨wipeW s0.env vs, s0.st⟩ = some s1 ∧ mi1 s1 = .ok (.fx ((ys x).map (e1 x))) s2 ∧ s2.st = s0.st ∧ ∀ y ∈ ys x, ∃ s3 s4, bd1 (e1 x y) ⟨wipeW s2.env vs1, s0.st⟩ = some s3 ∧ me s3 = .ok (.fr (.bl true)) s4 ∧ s4.st = s0.st) :
    ∃ n, lc2M mi bd yesM mi1 bd1 yesM me vs vs1 s = .ok ((List.replicate n (D.bl true)).map W.fr) s0 := by
  have main : ∀ (n i m : Nat) (s : S), xs.length = i + n → s.st = s0.st → m ≤ i * b → ∃ s' m', lc2Go (.fx (xs.map e)) bd yesM mi1 bd1 yesM me vs1 (wipeW s0.env vs) n i ((List.replicate m (D.bl true)).map W.fr) s = .ok ((List.replicate m' (D.bl true)).map W.fr) s' ∧ s'.st = s0.st := by
    intro n
    induction n with
    | zero =>
      intro i m s hl' hs hm
      refine ⟨s, m, ?_, hs⟩
      unfold lc2Go
      rw [fx_get, List.getElem?_eq_none (by rw [List.length_map]; omega)]
    | succ n ih =>
      intro i m s hl' hs hm
      have hi : i < xs.length := by omega
      obtain ⟨hb, s1, s2, q1, q2, q3, q4⟩ := h xs[i] (List.getElem_mem hi)
      have eg : (xs.map e)[i]? = some (e xs[i]) := by rw [List.getElem?_map, List.getElem?_eq_getElem hi]; rfl
      have hlt : i * b + b ≤ xs.length * b := by rw [← Nat.succ_mul]; exact Nat.mul_le_mul_right b hi
      obtain ⟨s5, r1, r2⟩ := lcGo_true (E0 := wipeW s2.env vs1) (e1 xs[i]) q4 m s2 q3 (by omega)
      obtain ⟨s', m', q, hq⟩ := ih (i + 1) (m + (ys xs[i]).length) s5 (by omega) r2 (by rw [Nat.succ_mul]; omega)
      refine ⟨s', m', ?_, hq⟩
      unfold lc2Go
      rw [fx_get, eg]
      dsimp only
      rw [hs, q1]
      dsimp only
      rw [yesM, then_ok', if_pos rfl, q2, then_ok', fx_len, List.length_map, r1, then_ok', q]
  obtain ⟨s', m', q, hs⟩ := main xs.length 0 0 s0 (by omega) rfl (by omega)
  refine ⟨m', ?_⟩
  unfold lc2M lc2F
  rw [hi, then_ok', fx_len, List.length_map]
  rw [show ([] : List W) = (List.replicate 0 (D.bl true)).map W.fr from rfl, q, noEr_ok, hs]
theorem frN_eq {m : S → R (List W)} {s s' : S} {ds : List D} (h : m s = .ok (ds.map W.fr) s') : frN m s = .ok (.fr (.lst ds)) s' := by
  unfold frN
  rw [h, then_ok']
  unfold frLst
  rw [frzs_fr, then_ok']
theorem loN_eq {m : S → R (List W)} {s s' : S} {ws : List W} (h : m s = .ok ws s') : loN m s = .ok (.loc s'.st.length) { s' with st := s'.st ++ [.lst ws] } := by
  unfold loN
  rw [h, then_ok']
  rfl
theorem setC_ok {i : Nat} {m : S → R W} {s s' : S} {w : W} (h : m s = .ok w s') : setC i m s = .nx (put s' i w) := by unfold setC; rw [h, toS_ok]
theorem rtC_ok {m : S → R W} {s s' : S} {w : W} (h : m s = .ok w s') : rtC m s = .rt w s' := by unfold rtC; rw [h, toS_ok]
theorem forC_ok {mi : S → R Src} {bd : W → S → Option S} {c : S → RS} {s s' s'' : S} {src : Src} (h : mi s = .ok src s') (q : forF src bd c s' = .nx s'') : forC mi bd c s = .nx s'' := by unfold forC; rw [h, toS_ok, q]
theorem appC_ok {mx me : S → R W} {s s' s1 : S} {k : Nat} {ws0 ws : List W} {u : W} (h1 : mx s = .ok (.loc k) s1) (h2 : s1.st[k]? = some (.lst ws0)) (h3 : me s1 = .ok u s') (h4 : s'.st[k]? = some (.lst ws)) (h5 : ws.length < sizeLine) :
    appC mx me s = .nx { s' with st := s'.st.set k (.lst (ws ++ [u])) } := by
  unfold appC
  rw [h1, toS_ok]
  unfold appW
  dsimp only
  rw [h2]
  dsimp only
  rw [h3, toS_ok]
  unfold appGo
  rw [h4]
  dsimp only
  rw [if_pos h5]
theorem eqG_int (neg : Bool) (s : S) (i j : Int) : eqG neg s (.fr (.int i)) (.fr (.int j)) = .ok (.fr (.bl (if neg then !decide (i = j) else decide (i = j)))) s := by
  have e : eqB2 (.int i) (.int j) = some (decide (i = j)) := by
    show some (PyData.eqv (.int i) (.int j)) = _
    have : PyData.eqv (.int i) (.int j) = (i == j) := by simp [PyData.eqv]
    rw [this]
    by_cases h : i = j <;> simp [h]
  unfold eqG
  rw [show deep s (.fr (.int i)) = some (.int i) from rfl, show deep s (.fr (.int j)) = some (.int j) from rfl]
  dsimp only
  rw [e]
theorem eqG_str (neg : Bool) (s : S) (i j : Str) : eqG neg s (.fr (.str i)) (.fr (.str j)) = .ok (.fr (.bl (if neg then !decide (i = j) else decide (i = j)))) s := by
  unfold eqG
  rw [show deep s (.fr (.str i)) = some (.str i) from rfl, show deep s (.fr (.str j)) = some (.str j) from rfl]
  rfl
theorem args1 {m : S → R W} {s s' : S} {w : W} (h : m s = .ok w s') : consA m nilA s = .ok [w] s' := by unfold consA; rw [h, then_ok']; rfl
theorem argsS {m : S → R W} {ms : S → R (List W)} {s s' s'' : S} {w : W} {ws : List W} (h : m s = .ok w s') (h' : ms s' = .ok ws s'') : consA m ms s = .ok (w :: ws) s'' := by unfold consA; rw [h, then_ok', h', then_ok']
theorem callM_ok {n : Nat} {g : Sem2} {ms : S → R (List W)} {s s' : S} {ws : List W} {w : W} {st' : List Cell} (h : ms s = .ok ws s') (hn : ws.length = n) (hg : g ws s'.st = .ok w st') : callM n g ms s = .ok w { s' with st := st' } := by
  unfold callM
  rw [h, then_ok']
  unfold callW
  rw [if_pos hn, hg]
theorem cbM_ok {α : Type} {g : S → List W → R α} {ms : S → R (List W)} {s s' : S} {ws : List W} (h : ms s = .ok ws s') : cbM g ms s = g s' ws := by unfold cbM; rw [h, then_ok']
/-! over a list that is a cell, the cells staying -/
theorem lcM_mapS {α : Type} {mi : S → R Src} {bd : W → S → Option S} {me : S → R W} {vs : List Nat} {s s0 : S} {src : Src} {xs : List α} (e : α → W) (g : α → W) (hi : mi s = .ok src s0) (hn : src.len s0 = xs.length) (hget : ∀ s' i, s'.st = s0.st → src.get s' i = some ((xs.map e)[i]?)) (hl : xs.length ≤ sizeLine)
    (h : ∀ x ∈ xs, ∃ s1 s3, bd (e x) ⟨wipeW s0.env vs, s0.st⟩ = some s1 ∧ me s1 = .ok (g x) s3 ∧ s3.st = s0.st) :
    lcM mi bd yesM me vs s = .ok (xs.map g) s0 := by
  have main : ∀ (n i : Nat) (acc : List W) (s : S), xs.length = i + n → acc.length + n ≤ sizeLine → s.st = s0.st → ∃ s', lcGo src bd yesM me (wipeW s0.env vs) n i acc s = .ok (acc ++ (xs.drop i).map g) s' ∧ s'.st = s0.st := by
    intro n
    induction n with
    | zero =>
      intro i acc s hl ha hs
      refine ⟨s, ?_, hs⟩
      unfold lcGo
      rw [hget s i hs, List.getElem?_eq_none (by rw [List.length_map]; omega), List.drop_of_length_le (by omega)]
      simp
    | succ n ih =>
      intro i acc s hl ha hs
      have hi : i < xs.length := by omega
      obtain ⟨s1, s3, e1, e3, h3⟩ := h xs[i] (List.getElem_mem hi)
      have eg : (xs.map e)[i]? = some (e xs[i]) := by rw [List.getElem?_map, List.getElem?_eq_getElem hi]; rfl
      obtain ⟨s', q, hI'⟩ := ih (i + 1) (acc ++ [g xs[i]]) s3 (by omega) (by simp; omega) h3
      refine ⟨s', ?_, hI'⟩
      unfold lcGo
      rw [hget s i hs, eg]
      dsimp only
      rw [hs, e1]
      dsimp only
      rw [yesM, then_ok', if_pos rfl, e3, then_ok', if_pos (by omega), q, List.drop_eq_getElem_cons hi, List.map_cons, List.append_assoc]
      rfl
  obtain ⟨s', q, hI'⟩ := main xs.length 0 [] s0 (by omega) (by simpa using hl) rfl
  unfold lcM lcF
  rw [hi, then_ok', hn, q, noEr_ok, hI']
  simp
theorem gRepr_ok {s : S} {w : W} {d : D} {x : Str} (h : deep s w = some d) (hx : repD d = some (.str x)) : gRepr s [w] = .ok (.fr (.str x)) s := by
  unfold gRepr
  dsimp only
  rw [h]
  dsimp only
  rw [hx]
theorem eqG_of {neg : Bool} {s : S} {a b : W} {x y : D} {c : Bool} (ha : deep s a = some x) (hb : deep s b = some y) (h : eqB2 x y = some c) : eqG neg s a b = .ok (.fr (.bl (if neg then !c else c))) s := by
  unfold eqG
  rw [ha, hb]
  dsimp only
  rw [h]
theorem asB_ok {m : S → R W} {s s' : S} {b : Bool} (h : m s = .ok (.fr (.bl b)) s') : asB (m s) = .ok b s' := by rw [h]; rfl
theorem bM_ok {ma mb : S → R W} {g : S → W → W → R W} {s s1 s2 : S} {a b : W} (ha : ma s = .ok a s1) (hb : mb s1 = .ok b s2) : bM ma mb g s = g s2 a b := by unfold bM; rw [ha, then_ok', hb, then_ok']
theorem ifC_ff {mc : S → R Bool} {c c' : S → RS} {s s' : S} (h : mc s = .ok false s') : ifC mc c c' s = c' s' := by unfold ifC; rw [h, toS_ok]; rfl
theorem orM_ff {ma mb : S → R Bool} {s s' s'' : S} (ha : ma s = .ok false s') (hb : mb s' = .ok false s'') : Z.orM ma mb s = .ok false s'' := by unfold Z.orM; rw [ha, then_ok', if_neg Bool.false_ne_true, hb]
theorem andV_tt {ma mb : S → R W} {s s' : S} {r : R W} (ha : ma s = .ok (.fr (.bl true)) s') (hb : mb s' = r) : andV ma mb s = r := by unfold andV; rw [ha, asB_bl, then_ok', if_pos rfl, hb]
theorem parC_ok {i j : Nat} {ms : S → R (List W)} {s s' : S} {a b : W} (h : ms s = .ok [a, b] s') : parC i j ms s = .nx (put (put s' i a) j b) := by unfold parC; rw [h, toS_ok]
end Z
namespace Z
open PySem PySem.Spec PyProof.Rows L2
/-! ### data that is shown and compared -/
structure Nc (B L Dp : Nat) (p : PyData) : Prop where
  lay : p.canLay0 = true
  sh : p.showable = true
  nd : p.hasDict = false
  lv : p.leavesShort B = true
  wt : p.weight ≤ L
  dp : p.depth ≤ Dp
def Nice (B L Dp : Nat) (d : D) : Prop := ∃ p, d.py = some p ∧ Nc B L Dp p
theorem nice_non {B L Dp : Nat} : Nice B L Dp .non := ⟨.none, rfl, rfl, rfl, rfl, rfl, Nat.zero_le _, Nat.zero_le _⟩
theorem log2_lt {n k : Nat} (h : n < 2 ^ k) (hk : 0 < k) : n.log2 < k := by
  by_cases hn : n = 0
  · subst hn; rw [Nat.log2_zero]; exact hk
  · exact (Nat.log2_lt hn).mpr h
theorem nice_int {B L Dp : Nat} {i : Int} (h0 : 0 ≤ i) (hB : 0 < B) (hi : i < 10 ^ B) (hL : i < 2 ^ L) (hL1 : 0 < L) (hL2 : L < 1900) : Nice B L Dp (.int i) := by
  have hn : i.natAbs < 2 ^ L := by
    have : ((2 ^ L : Nat) : Int) = (2 : Int) ^ L := by norm_cast
    omega
  have hlog := log2_lt hn hL1
  refine ⟨.int i, rfl, rfl, ?_, rfl, ?_, ?_, Nat.zero_le _⟩
  · show decide (i.natAbs.log2 < 1920) = true
    exact decide_eq_true (by omega)
  · show decide ((PyData.shown (.int i)).length ≤ B) = true
    exact decide_eq_true (toString_length_le h0 hB hi)
  · show (if i == 0 then 0 else i.natAbs.log2 + 1) ≤ L
    split <;> omega
theorem nc_all {B L Dp : Nat} : ∀ {ds : List D}, (∀ d ∈ ds, Nice B L Dp d) → ∃ ps, D.pys ds = some ps ∧ ps.length = ds.length ∧ PyData.canLayAll0 ps = true ∧ PyData.showableAll ps = true ∧ PyData.hasDictAll ps = false ∧ PyData.leavesShortAll B ps = true ∧ PyData.weightAll ps ≤ (L + 1) * ds.length ∧ PyData.depthAll ps ≤ Dp
  | [], _ => ⟨[], rfl, rfl, rfl, rfl, rfl, rfl, Nat.zero_le _, Nat.zero_le _⟩
  | d :: ds, h => by
    obtain ⟨p, e, n⟩ := h d List.mem_cons_self
    obtain ⟨ps, e2, l, a1, a2, a3, a4, a5, a6⟩ := nc_all (ds := ds) fun x hx => h x (List.mem_cons_of_mem _ hx)
    refine ⟨p :: ps, by rw [D.pys, e, e2], by simp [l], ?_, ?_, ?_, ?_, ?_, ?_⟩
    · rw [PyData.canLayAll0, n.lay, a1]; rfl
    · rw [PyData.showableAll, n.sh, a2]; rfl
    · rw [PyData.hasDictAll, n.nd, a3]; rfl
    · rw [PyData.leavesShortAll, n.lv, a4]; rfl
    · rw [PyData.weightAll, List.length_cons, Nat.mul_succ]
      have := n.wt
      omega
    · rw [PyData.depthAll]
      have := n.dp
      omega
theorem nice_lst {B L Dp : Nat} {ds : List D} (h : ∀ d ∈ ds, Nice B L Dp d) : Nice B ((L + 1) * ds.length) (Dp + 1) (.lst ds) := by
  obtain ⟨ps, e, l, a1, a2, a3, a4, a5, a6⟩ := nc_all h
  refine ⟨.list ps, by rw [D.py, e]; rfl, a1, a2, a3, a4, ?_, ?_⟩
  · rw [PyData.weight]; exact a5
  · rw [PyData.depth]; omega
theorem nice_tup {B L Dp : Nat} {ds : List D} (h : ∀ d ∈ ds, Nice B L Dp d) : Nice B ((L + 1) * ds.length) (Dp + 1) (.tup ds) := by
  obtain ⟨ps, e, l, a1, a2, a3, a4, a5, a6⟩ := nc_all h
  refine ⟨.tuple ps, by rw [D.py, e]; rfl, a1, a2, a3, a4, ?_, ?_⟩
  · rw [PyData.weight]; exact a5
  · rw [PyData.depth]; omega
theorem Nice.mono {B L L' Dp Dp' : Nat} {d : D} (h : Nice B L Dp d) (a : L ≤ L') (b : Dp ≤ Dp') : Nice B L' Dp' d := by
  obtain ⟨p, e, n⟩ := h
  exact ⟨p, e, n.lay, n.sh, n.nd, n.lv, Nat.le_trans n.wt a, Nat.le_trans n.dp b⟩
theorem rep_nice {B L Dp : Nat} {d : D} (h : Nice B L Dp d) (hs : (match d with | .lst _ => true | .tup _ => true | _ => false) = true) (hB : 8 ≤ B) (hb : (B + 2) * L + B ≤ sizeLine) (hd : Dp ≤ 64) : ∃ x, repD d = some (.str x) := by
  obtain ⟨p, e, n⟩ := h
  refine ⟨p.shown, ?_⟩
  unfold repD
  rw [e]
  dsimp only
  rw [if_pos]
  refine ⟨?_, n.sh, ?_, Nat.le_trans n.dp hd, n.nd⟩
  · cases d with
    | lst ds => rw [D.py] at e; obtain ⟨ps, _, rfl⟩ := Option.map_eq_some_iff.mp e; rfl
    | tup ds => rw [D.py] at e; obtain ⟨ps, _, rfl⟩ := Option.map_eq_some_iff.mp e; rfl
    | _ => cases hs
  · refine Nat.le_trans (PyData.shown_le B hB p n.lv) (Nat.le_trans ?_ hb)
    exact Nat.add_le_add_right (Nat.mul_le_mul_left _ n.wt) _
theorem eqB_nice {B L Dp B' L' Dp' : Nat} {d d' : D} (h : Nice B L Dp d) (h' : Nice B' L' Dp' d') (hd : Dp ≤ 64) (hd' : Dp' ≤ 64) : ∃ c, eqB d d' = some c ∧ (d = d' → c = true) := by
  obtain ⟨p, e, n⟩ := h
  obtain ⟨q, e', n'⟩ := h'
  refine ⟨PyData.eqv p q, ?_, fun z => ?_⟩
  · unfold eqB
    rw [e, e']
    dsimp only
    rw [if_pos]
    unfold SeqAt.shaped
    rw [n.lay, n'.lay, decide_eq_true (Nat.le_trans n.dp hd), decide_eq_true (Nat.le_trans n'.dp hd')]
    exact ⟨rfl, rfl⟩
  · subst z
    rw [e] at e'
    cases e'
    exact SeqAt.eqv_refl p n.lay
end Z
namespace K35
open PySem PySem.Spec PyProof.Rows L2 Z
theorem b_all : bootBuiltins "all" = some (.builtin "all") := by decide +kernel
theorem b_bool : bootBuiltins "bool" = some (.type "bool") := by decide +kernel
theorem b_int : bootBuiltins "int" = some (.type "int") := by decide +kernel
theorem b_isinstance : bootBuiltins "isinstance" = some (.builtin "isinstance") := by decide +kernel
theorem b_len : bootBuiltins "len" = some (.builtin "len") := by decide +kernel
theorem b_list : bootBuiltins "list" = some (.type "list") := by decide +kernel
theorem b_max : bootBuiltins "max" = some (.builtin "max") := by decide +kernel
theorem b_min : bootBuiltins "min" = some (.builtin "min") := by decide +kernel
theorem b_range : bootBuiltins "range" = some (.type "range") := by decide +kernel
theorem b_repr : bootBuiltins "repr" = some (.builtin "repr") := by decide +kernel
theorem b_tuple : bootBuiltins "tuple" = some (.type "tuple") := by decide +kernel
theorem b_zip : bootBuiltins "zip" = some (.type "zip") := by decide +kernel
def top (i : Nat) : Stmt := PySem.Challenge.pw_formatrepair_k35_products_and_shapes.main.body.getD i (.Pass ⟨0, 0, 0, 0⟩)
/-- what the top has written -/
structure Txt (K : PySem.W.Frag) (mg : Str → Option Value) where
  f__law_box : Addr
  fd__law_box : FuncData
  F__law_box : Fun K "_law_box" "_law_box" (top 25) f__law_box fd__law_box
  m__law_box : mg "_law_box" = some (.ref f__law_box)
  b__law_box : Binds K fd__law_box ["_law_cell_here"] []
  f__law_cell : Addr
  fd__law_cell : FuncData
  F__law_cell : Fun K "_law_cell" "_law_cell" (top 24) f__law_cell fd__law_cell
  m__law_cell : mg "_law_cell" = some (.ref f__law_cell)
  b__law_cell : Binds K fd__law_cell ["_law_script", "_law_k"] []
  f_least : Addr
  fd_least : FuncData
  F_least : Fun K "least" "least" (top 10) f_least fd_least
  m_least : mg "least" = some (.ref f_least)
  b_least : Binds K fd_least ["values"] []
  f_added : Addr
  fd_added : FuncData
  F_added : Fun K "added" "added" (top 11) f_added fd_added
  m_added : mg "added" = some (.ref f_added)
  b_added : Binds K fd_added ["one", "other"] []
  f_product_of : Addr
  fd_product_of : FuncData
  F_product_of : Fun K "product_of" "product_of" (top 12) f_product_of fd_product_of
  m_product_of : mg "product_of" = some (.ref f_product_of)
  b_product_of : Binds K fd_product_of ["one", "other"] []
  f_is_square : Addr
  fd_is_square : FuncData
  F_is_square : Fun K "is_square" "is_square" (top 13) f_is_square fd_is_square
  m_is_square : mg "is_square" = some (.ref f_is_square)
  b_is_square : Binds K fd_is_square ["value", "size"] []
  f_is_integer : Addr
  fd_is_integer : FuncData
  F_is_integer : Fun K "is_integer" "is_integer" (top 4) f_is_integer fd_is_integer
  m_is_integer : mg "is_integer" = some (.ref f_is_integer)
  b_is_integer : Binds K fd_is_integer ["value"] []
  f_is_matrix : Addr
  fd_is_matrix : FuncData
  F_is_matrix : Fun K "is_matrix" "is_matrix" (top 14) f_is_matrix fd_is_matrix
  m_is_matrix : mg "is_matrix" = some (.ref f_is_matrix)
  b_is_matrix : Binds K fd_is_matrix ["value", "size"] []
  f_own_size : Addr
  fd_own_size : FuncData
  F_own_size : Fun K "own_size" "own_size" (top 16) f_own_size fd_own_size
  m_own_size : mg "own_size" = some (.ref f_own_size)
  b_own_size : Binds K fd_own_size ["value"] []
  f_multiply_costs : Addr
  fd_multiply_costs : FuncData
  F_multiply_costs : Fun K "multiply_costs" "multiply_costs" (top 17) f_multiply_costs fd_multiply_costs
  m_multiply_costs : mg "multiply_costs" = some (.ref f_multiply_costs)
  b_multiply_costs : Binds K fd_multiply_costs ["one", "other"] []
  f_shape_of : Addr
  fd_shape_of : FuncData
  F_shape_of : Fun K "shape_of" "shape_of" (top 18) f_shape_of fd_shape_of
  m_shape_of : mg "shape_of" = some (.ref f_shape_of)
  b_shape_of : Binds K fd_shape_of ["matrix"] []
  f__law_take : Addr
  fd__law_take : FuncData
  F__law_take : Fun K "_law_take" "_law_take" (top 26) f__law_take fd__law_take
  m__law_take : mg "_law_take" = some (.ref f__law_take)
  b__law_take : Binds K fd__law_take ["_law_box_here", "_law_size"] []
  f__law_drawn : Addr
  fd__law_drawn : FuncData
  F__law_drawn : Fun K "_law_drawn" "_law_drawn" (top 27) f__law_drawn fd__law_drawn
  m__law_drawn : mg "_law_drawn" = some (.ref f__law_drawn)
  b__law_drawn : Binds K fd__law_drawn ["_law_box_here", "_law_size", "_law_items"] []
  f__law_given : Addr
  fd__law_given : FuncData
  F__law_given : Fun K "_law_given" "_law_given" (top 28) f__law_given fd__law_given
  m__law_given : mg "_law_given" = some (.ref f__law_given)
  b__law_given : Binds K fd__law_given ["_law_box_here", "_law_matrix"] []
  f__law_sums : Addr
  fd__law_sums : FuncData
  F__law_sums : Fun K "_law_sums" "_law_sums" (top 29) f__law_sums fd__law_sums
  m__law_sums : mg "_law_sums" = some (.ref f__law_sums)
  b__law_sums : Binds K fd__law_sums ["_law_one", "_law_other"] []
  f__law_costs_right : Addr
  fd__law_costs_right : FuncData
  F__law_costs_right : Fun K "_law_costs_right" "_law_costs_right" (top 31) f__law_costs_right fd__law_costs_right
  m__law_costs_right : mg "_law_costs_right" = some (.ref f__law_costs_right)
  b__law_costs_right : Binds K fd__law_costs_right ["_law_box_here", "_law_size"] []
  f_is_between : Addr
  fd_is_between : FuncData
  F_is_between : Fun K "is_between" "is_between" (top 5) f_is_between fd_is_between
  m_is_between : mg "is_between" = some (.ref f_is_between)
  b_is_between : Binds K fd_is_between ["value", "low", "high"] []
  f_is_shape : Addr
  fd_is_shape : FuncData
  F_is_shape : Fun K "is_shape" "is_shape" (top 15) f_is_shape fd_is_shape
  m_is_shape : mg "is_shape" = some (.ref f_is_shape)
  b_is_shape : Binds K fd_is_shape ["value", "size"] []
  f_check_shape : Addr
  fd_check_shape : FuncData
  F_check_shape : Fun K "check_shape" "check_shape" (top 20) f_check_shape fd_check_shape
  m_check_shape : mg "check_shape" = some (.ref f_check_shape)
  b_check_shape : Binds K fd_check_shape ["shape", "size"] []
  f_joined_shape : Addr
  fd_joined_shape : FuncData
  F_joined_shape : Fun K "joined_shape" "joined_shape" (top 19) f_joined_shape fd_joined_shape
  m_joined_shape : mg "joined_shape" = some (.ref f_joined_shape)
  b_joined_shape : Binds K fd_joined_shape ["one", "other"] []
  f_multiply_shapes : Addr
  fd_multiply_shapes : FuncData
  F_multiply_shapes : Fun K "multiply_shapes" "multiply_shapes" (top 21) f_multiply_shapes fd_multiply_shapes
  m_multiply_shapes : mg "multiply_shapes" = some (.ref f_multiply_shapes)
  b_multiply_shapes : Binds K fd_multiply_shapes ["one", "other"] []
  f__law_paths : Addr
  fd__law_paths : FuncData
  F__law_paths : Fun K "_law_paths" "_law_paths" (top 30) f__law_paths fd__law_paths
  m__law_paths : mg "_law_paths" = some (.ref f__law_paths)
  b__law_paths : Binds K fd__law_paths ["_law_one", "_law_other"] []
  f_is_stable : Addr
  fd_is_stable : FuncData
  F_is_stable : Fun K "is_stable" "is_stable" (top 22) f_is_stable fd_is_stable
  m_is_stable : mg "is_stable" = some (.ref f_is_stable)
  b_is_stable : Binds K fd_is_stable ["shape"] []
  f__law_shapes_right : Addr
  fd__law_shapes_right : FuncData
  F__law_shapes_right : Fun K "_law_shapes_right" "_law_shapes_right" (top 32) f__law_shapes_right fd__law_shapes_right
  m__law_shapes_right : mg "_law_shapes_right" = some (.ref f__law_shapes_right)
  b__law_shapes_right : Binds K fd__law_shapes_right ["_law_box_here", "_law_size"] []
  f_law : Addr
  fd_law : FuncData
  F_law : Fun K "law" "law" (top 33) f_law fd_law
  m_law : mg "law" = some (.ref f_law)
  b_law : Binds K fd_law ["_law_script"] []
  z_all : mg "all" = none
  z_bool : mg "bool" = none
  z_int : mg "int" = none
  z_isinstance : mg "isinstance" = none
  z_len : mg "len" = none
  z_list : mg "list" = none
  z_max : mg "max" = none
  z_min : mg "min" = none
  z_range : mg "range" = none
  z_repr : mg "repr" = none
  z_tuple : mg "tuple" = none
  z_zip : mg "zip" = none
  w_FREE : Value
  k_FREE : mg "FREE" = some w_FREE
  r_FREE : RelV (.int 0) w_FREE
  w_NEVER : Value
  k_NEVER : mg "NEVER" = some w_NEVER
  r_NEVER : RelV (.int 3) w_NEVER
  w_SOME : Value
  k_SOME : mg "SOME" = some w_SOME
  r_SOME : RelV (.int 1) w_SOME
section
variable {P : Program} {w : World} {K : PySem.W.Frag} {mg : Str → Option Value} {base : Heap} (T : Txt K mg)
theorem sc__law_box : FnScope ["_law_cell_here"] ["_law_cell_here"] (defScope (top 25)) := ⟨rfl, rfl, rfl, by decide +kernel, rfl, by decide +kernel, by decide +kernel⟩
def c__law_box : S → RS :=
  (rtC (loN (lstM (consA (cbM (g2 max2D) (consA (cM (.int 0)) (consA (bM (vM 0) (bM (cM (.int 10)) (cM (.int 18)) (op2 powD)) (op2 subD)) nilA))) (consA (bM (vM 0) (cM (.int 2147483629)) (op2 modD)) (consA (cM (.int 0)) nilA))))))
theorem v__law_box :
    FnV false P w K mg base 1 T.f__law_box T.fd__law_box ["_law_cell_here"] (spZ K 1 (runZ 1 (c__law_box))) :=
  fnv T.F__law_box sc__law_box fun cdv A outer s H E hr hg tk => by
  have hp := passes_of (X := bodyX P w K mg base ["_law_cell_here"] "_law_box" (top 25) T.f__law_box cdv A outer s H E) rfl
  exact (zss_one (zs_ret (ze_loc (zn_lst (za_cons (ze_cb zc_max2 (b_max) T.z_max (za_cons ze_int (za_cons (ze_bin zo_sub (ze_var 0) (ze_bin zo_pow ze_int ze_int)) za_nil))) (za_cons (ze_bin zo_mod (ze_var 0) ze_int) (za_cons ze_int za_nil)))))))
theorem sc__law_cell : FnScope ["_law_script", "_law_k"] ["_law_script", "_law_k"] (defScope (top 24)) := ⟨rfl, rfl, rfl, by decide +kernel, rfl, by decide +kernel, by decide +kernel⟩
def c__law_cell : S → RS :=
  (seqC (ifC (fun s => asB ((bM (vM 1) (cbM gLen (consA (vM 0) nilA)) (op2 ltD)) s)) (rtC (ixM (vM 0) (vM 1))) nxC)
  (rtC (bM (bM (cM (.int 6007)) (vM 1) (op2 mulD)) (cM (.int 89)) (op2 addD))))
theorem v__law_cell :
    FnV false P w K mg base 1 T.f__law_cell T.fd__law_cell ["_law_script", "_law_k"] (spZ K 2 (runZ 2 (c__law_cell))) :=
  fnv T.F__law_cell sc__law_cell fun cdv A outer s H E hr hg tk => by
  have hp := passes_of (X := bodyX P w K mg base ["_law_script", "_law_k"] "_law_cell" (top 24) T.f__law_cell cdv A outer s H E) rfl
  exact (zss_cons (zs_if (zt_cmp zo_lt (ze_var 1) (ze_cb zc_len (b_len) T.z_len (za_cons (ze_var 0) za_nil)) (by rfl)) (zss_one (zs_ret (ze_ix (ze_var 0) (ze_var 1)))) zss_nil)
  (zss_one (zs_ret (ze_bin zo_add (ze_bin zo_mul ze_int (ze_var 1)) ze_int))))
theorem sc_least : FnScope ["values", "numbers", "value"] ["values"] (defScope (top 10)) := ⟨rfl, rfl, rfl, by decide +kernel, rfl, by decide +kernel, by decide +kernel⟩
def c_least : S → RS :=
  (seqC (setC 1 (frN (lcM (seqI (vM 0)) (bName 2) (mNt true (vM 2)) (vM 2) [2])))
  (rtC (ifM (trM (vM 1)) (cbM (g1 minD) (consA (vM 1) nilA)) (cM .non))))
theorem v_least :
    FnV false P w K mg base 1 T.f_least T.fd_least ["values"] (spZ K 1 (runZ 3 (c_least))) :=
  fnv T.F_least sc_least fun cdv A outer s H E hr hg tk => by
  have hp := passes_of (X := bodyX P w K mg base ["values", "numbers", "value"] "least" (top 10) T.f_least cdv A outer s H E) rfl
  exact (zss_cons (zs_setLc (i := 1) (own := [("value", 2)]) rfl sc_least.nd rfl rfl (sw_true rfl rfl rfl (by decide +kernel)) (zi_seq (ze_var 0)) (blkOk_by (by first | (dsimp only [bodyX, cxOf, envOfC]; decide +kernel) | (dsimp only [bodyX, cxOf, envOfC]; simp only [scope_comp]; decide +kernel))) (fun _ _ _ _ _ => (zg_name sc_least.nd rfl (by first | exact Or.inl rfl | exact Or.inr rfl))) (fun _ _ _ _ _ => (zts_one (zt_notN (ze_var 2)))) (fun _ _ _ _ _ => (ze_var 2)))
  (zss_one (zs_ret (ze_if (zt_tru (ze_var 1)) (ze_cb zc_min (b_min) T.z_min (za_cons (ze_var 1) za_nil)) ze_non))))
theorem sc_added : FnScope ["one", "other"] ["one", "other"] (defScope (top 11)) := ⟨rfl, rfl, rfl, by decide +kernel, rfl, by decide +kernel, by decide +kernel⟩
def c_added : S → RS :=
  (rtC (ifM (orM (mNt false (vM 0)) (mNt false (vM 1))) (cM .non) (bM (vM 0) (vM 1) (op2 addD))))
theorem v_added :
    FnV false P w K mg base 1 T.f_added T.fd_added ["one", "other"] (spZ K 2 (runZ 2 (c_added))) :=
  fnv T.F_added sc_added fun cdv A outer s H E hr hg tk => by
  have hp := passes_of (X := bodyX P w K mg base ["one", "other"] "added" (top 11) T.f_added cdv A outer s H E) rfl
  exact (zss_one (zs_ret (ze_if (zt_bo (zw_or (zt_isN (ze_var 0)) (zw_or1 (zt_isN (ze_var 1))))) ze_non (ze_bin zo_add (ze_var 0) (ze_var 1)))))
theorem sc_product_of : FnScope ["one", "other", "columns", "place", "row", "column", "a", "b"] ["one", "other"] (defScope (top 12)) := ⟨rfl, rfl, rfl, by decide +kernel, rfl, by decide +kernel, by decide +kernel⟩
def c_product_of (s_added s_least : Sem2) : S → RS :=
  (seqC (setC 2 (frN (lcM (rngI1 (consA (cbM gLen (consA (vM 1) nilA)) nilA)) (bName 3) yesM (frN (lcM (seqI (vM 1)) (bName 4) yesM (ixM (vM 4) (vM 3)) [4])) [3])))
  (rtC (loN (lcM (seqI (vM 0)) (bName 4) yesM (loN (lcM (seqI (vM 2)) (bName 5) yesM (callM 1 s_least (consA (frN (lcM (zipI (consA (vM 4) (consA (vM 5) nilA))) (bTup 2 (bCons (bName 6) (bCons (bName 7) bNil))) yesM (callM 2 s_added (consA (vM 6) (consA (vM 7) nilA))) [6, 7])) nilA)) [5])) [4]))))
theorem v_product_of {s_added s_least : Sem2}
    (V_added : FnV false P w K mg base 1 T.f_added T.fd_added ["one", "other"] (spZ K 2 s_added))
    (V_least : FnV false P w K mg base 1 T.f_least T.fd_least ["values"] (spZ K 1 s_least)) :
    FnV false P w K mg base 2 T.f_product_of T.fd_product_of ["one", "other"] (spZ K 2 (runZ 8 (c_product_of s_added s_least))) :=
  fnv T.F_product_of sc_product_of fun cdv A outer s H E hr hg tk => by
  have hp := passes_of (X := bodyX P w K mg base ["one", "other", "columns", "place", "row", "column", "a", "b"] "product_of" (top 12) T.f_product_of cdv A outer s H E) rfl
  exact (zss_cons (zs_set (i := 2) sc_product_of.nd rfl (by first | exact Or.inl rfl | exact Or.inr rfl) (ze_frz (zn_lc (own := [("place", 3)]) rfl sc_product_of.nd (zi_range1 (by rfl) T.z_range (za_cons (ze_cb zc_len (b_len) T.z_len (za_cons (ze_var 1) za_nil)) za_nil)) (blkOk_by (by first | (dsimp only [bodyX, cxOf, envOfC]; decide +kernel) | (dsimp only [bodyX, cxOf, envOfC]; simp only [scope_comp]; decide +kernel))) (fun _ _ _ _ _ => (zg_name sc_product_of.nd rfl (by first | exact Or.inl rfl | exact Or.inr rfl))) (fun _ _ _ _ _ => zts_nil) (fun _ _ _ _ _ => (ze_frz (zn_lc (own := [("row", 4)]) rfl sc_product_of.nd (zi_seq (ze_var 1)) (blkOk_by (by first | (dsimp only [bodyX, cxOf, envOfC]; decide +kernel) | (dsimp only [bodyX, cxOf, envOfC]; simp only [scope_comp]; decide +kernel))) (fun _ _ _ _ _ => (zg_name sc_product_of.nd rfl (by first | exact Or.inl rfl | exact Or.inr rfl))) (fun _ _ _ _ _ => zts_nil) (fun _ _ _ _ _ => (ze_ix (ze_var 4) (ze_var 3)))))))))
  (zss_one (zs_ret (ze_loc (zn_lc (own := [("row", 4)]) rfl sc_product_of.nd (zi_seq (ze_var 0)) (blkOk_by (by first | (dsimp only [bodyX, cxOf, envOfC]; decide +kernel) | (dsimp only [bodyX, cxOf, envOfC]; simp only [scope_comp]; decide +kernel))) (fun _ _ _ _ _ => (zg_name sc_product_of.nd rfl (by first | exact Or.inl rfl | exact Or.inr rfl))) (fun _ _ _ _ _ => zts_nil) (fun _ _ _ _ _ => (ze_loc (zn_lc (own := [("column", 5)]) rfl sc_product_of.nd (zi_seq (ze_var 2)) (blkOk_by (by first | (dsimp only [bodyX, cxOf, envOfC]; decide +kernel) | (dsimp only [bodyX, cxOf, envOfC]; simp only [scope_comp]; decide +kernel))) (fun _ _ _ _ _ => (zg_name sc_product_of.nd rfl (by first | exact Or.inl rfl | exact Or.inr rfl))) (fun _ _ _ _ _ => zts_nil) (fun _ _ _ _ _ => (ze_call V_least (hr.mono (by decide)) gdF T.m_least T.F_least.kp T.b_least takesNo (za_cons (ze_frz (zn_lc (own := [("a", 6), ("b", 7)]) rfl sc_product_of.nd (zi_zip (by rfl) T.z_zip (za_cons (ze_var 4) (za_cons (ze_var 5) za_nil))) (blkOk_by (by first | (dsimp only [bodyX, cxOf, envOfC]; decide +kernel) | (dsimp only [bodyX, cxOf, envOfC]; simp only [scope_comp]; decide +kernel))) (fun _ _ _ _ _ => (zg_tup rfl (zgs_cons (zg_name sc_product_of.nd rfl (by first | exact Or.inl rfl | exact Or.inr rfl)) (zgs_cons (zg_name sc_product_of.nd rfl (by first | exact Or.inl rfl | exact Or.inr rfl)) zgs_nil)))) (fun _ _ _ _ _ => zts_nil) (fun _ _ _ _ _ => (ze_call V_added (hr.mono (by decide)) gdF T.m_added T.F_added.kp T.b_added takesNo (za_cons (ze_var 6) (za_cons (ze_var 7) za_nil)))))) za_nil)))))))))))
theorem sc_is_square : FnScope ["value", "size", "row"] ["value", "size"] (defScope (top 13)) := ⟨rfl, rfl, rfl, by decide +kernel, rfl, by decide +kernel, by decide +kernel⟩
def c_is_square : S → RS :=
  (seqC (ifC (orM (notM (trM (isM [.lst, .tup] (vM 0)))) (fun s => asB ((bM (cbM gLen (consA (vM 0) nilA)) (vM 1) (eqG true)) s))) (rtC (cM (.bl false))) nxC)
  (rtC (cbM (g1 allD) (consA (frN (lcM (seqI (vM 0)) (bName 2) yesM (andV (isM [.lst, .tup] (vM 2)) (bM (cbM gLen (consA (vM 2) nilA)) (vM 1) (eqG false))) [2])) nilA))))
theorem v_is_square :
    FnV false P w K mg base 1 T.f_is_square T.fd_is_square ["value", "size"] (spZ K 2 (runZ 3 (c_is_square))) :=
  fnv T.F_is_square sc_is_square fun cdv A outer s H E hr hg tk => by
  have hp := passes_of (X := bodyX P w K mg base ["value", "size", "row"] "is_square" (top 13) T.f_is_square cdv A outer s H E) rfl
  exact (zss_cons (zs_if (zt_bo (zw_or (zt_not (zt_tru (ze_isi2 .lst .tup (ze_var 0) T.z_isinstance T.z_list T.z_tuple (b_list) (b_tuple)))) (zw_or1 (zt_ne hr.units (ze_cb zc_len (b_len) T.z_len (za_cons (ze_var 0) za_nil)) (ze_var 1))))) (zss_one (zs_ret ze_bl)) zss_nil)
  (zss_one (zs_ret (ze_cb zc_all (b_all) T.z_all (za_cons (ze_frz (zn_lc (own := [("row", 2)]) rfl sc_is_square.nd (zi_seq (ze_var 0)) (blkOk_by (by first | (dsimp only [bodyX, cxOf, envOfC]; decide +kernel) | (dsimp only [bodyX, cxOf, envOfC]; simp only [scope_comp]; decide +kernel))) (fun _ _ _ _ _ => (zg_name sc_is_square.nd rfl (by first | exact Or.inl rfl | exact Or.inr rfl))) (fun _ _ _ _ _ => zts_nil) (fun _ _ _ _ _ => (ze_and (ze_isi2 .lst .tup (ze_var 2) T.z_isinstance T.z_list T.z_tuple (b_list) (b_tuple)) (ze_and1 (ze_eq hr.units (ze_cb zc_len (b_len) T.z_len (za_cons (ze_var 2) za_nil)) (ze_var 1))))))) za_nil)))))
theorem sc_is_integer : FnScope ["value"] ["value"] (defScope (top 4)) := ⟨rfl, rfl, rfl, by decide +kernel, rfl, by decide +kernel, by decide +kernel⟩
def c_is_integer : S → RS :=
  (rtC (andV (isM [.int] (vM 0)) (notV (isM [.bl] (vM 0)))))
theorem v_is_integer :
    FnV false P w K mg base 1 T.f_is_integer T.fd_is_integer ["value"] (spZ K 1 (runZ 1 (c_is_integer))) :=
  fnv T.F_is_integer sc_is_integer fun cdv A outer s H E hr hg tk => by
  have hp := passes_of (X := bodyX P w K mg base ["value"] "is_integer" (top 4) T.f_is_integer cdv A outer s H E) rfl
  exact (zss_one (zs_ret (ze_and (ze_isi .int (ze_var 0) T.z_isinstance T.z_int (b_int)) (ze_and1 (ze_not (ze_isi .bl (ze_var 0) T.z_isinstance T.z_bool (b_bool)))))))
theorem sc_is_matrix : FnScope ["value", "size", "row", "item"] ["value", "size"] (defScope (top 14)) := ⟨rfl, rfl, rfl, by decide +kernel, rfl, by decide +kernel, by decide +kernel⟩
def c_is_matrix (s_is_square s_is_integer : Sem2) : S → RS :=
  (seqC (ifC (notM (trM (callM 2 s_is_square (consA (vM 0) (consA (vM 1) nilA))))) (rtC (cM (.bl false))) nxC)
  (rtC (cbM (g1 allD) (consA (frN (lc2M (seqI (vM 0)) (bName 2) yesM (seqI (vM 2)) (bName 3) yesM (orV (mN false (vM 3)) (andV (callM 1 s_is_integer (consA (vM 3) nilA)) (bM (vM 3) (cM (.int 0)) (op2 geD)))) [2, 3] [3])) nilA))))
theorem v_is_matrix {s_is_square s_is_integer : Sem2}
    (V_is_square : FnV false P w K mg base 1 T.f_is_square T.fd_is_square ["value", "size"] (spZ K 2 s_is_square))
    (V_is_integer : FnV false P w K mg base 1 T.f_is_integer T.fd_is_integer ["value"] (spZ K 1 s_is_integer)) :
    FnV false P w K mg base 2 T.f_is_matrix T.fd_is_matrix ["value", "size"] (spZ K 2 (runZ 4 (c_is_matrix s_is_square s_is_integer))) :=
  fnv T.F_is_matrix sc_is_matrix fun cdv A outer s H E hr hg tk => by
  have hp := passes_of (X := bodyX P w K mg base ["value", "size", "row", "item"] "is_matrix" (top 14) T.f_is_matrix cdv A outer s H E) rfl
  exact (zss_cons (zs_if (zt_not (zt_tru (ze_call V_is_square (hr.mono (by decide)) gdF T.m_is_square T.F_is_square.kp T.b_is_square tk (za_cons (ze_var 0) (za_cons (ze_var 1) za_nil))))) (zss_one (zs_ret ze_bl)) zss_nil)
  (zss_one (zs_ret (ze_cb zc_all (b_all) T.z_all (za_cons (ze_frz (zn_lc2 (own := [("row", 2), ("item", 3)]) (vs1 := [3]) rfl sc_is_matrix.nd (zi_seq (ze_var 0)) (blkOk_by (by first | (dsimp only [bodyX, cxOf, envOfC]; decide +kernel) | (dsimp only [bodyX, cxOf, envOfC]; simp only [scope_comp]; decide +kernel))) (by decide) (fun _ _ _ _ _ => (zg_more (by decide) (zg_name sc_is_matrix.nd rfl (by first | exact Or.inl rfl | exact Or.inr rfl)))) (fun _ _ _ _ _ => zts_nil) (fun _ _ _ _ _ => (zi_seq (ze_var 2))) (fun _ _ _ _ _ => (zg_name sc_is_matrix.nd rfl (by first | exact Or.inl rfl | exact Or.inr rfl))) (fun _ _ _ _ _ => zts_nil) (fun _ _ _ _ _ => (ze_or (ze_isN (ze_var 3)) (ze_and1 (ze_and (ze_call V_is_integer (hr.mono (by decide)) gdF T.m_is_integer T.F_is_integer.kp T.b_is_integer takesNo (za_cons (ze_var 3) za_nil)) (ze_and1 (ze_cmp zo_ge (ze_var 3) ze_int (by rfl))))))))) za_nil)))))
theorem sc_own_size : FnScope ["value"] ["value"] (defScope (top 16)) := ⟨rfl, rfl, rfl, by decide +kernel, rfl, by decide +kernel, by decide +kernel⟩
def c_own_size : S → RS :=
  (rtC (ifM (trM (isM [.lst, .tup] (vM 0))) (cbM gLen (consA (vM 0) nilA)) (cM (.int 0))))
theorem v_own_size :
    FnV false P w K mg base 1 T.f_own_size T.fd_own_size ["value"] (spZ K 1 (runZ 1 (c_own_size))) :=
  fnv T.F_own_size sc_own_size fun cdv A outer s H E hr hg tk => by
  have hp := passes_of (X := bodyX P w K mg base ["value"] "own_size" (top 16) T.f_own_size cdv A outer s H E) rfl
  exact (zss_one (zs_ret (ze_if (zt_tru (ze_isi2 .lst .tup (ze_var 0) T.z_isinstance T.z_list T.z_tuple (b_list) (b_tuple))) (ze_cb zc_len (b_len) T.z_len (za_cons (ze_var 0) za_nil)) ze_int)))
theorem sc_multiply_costs : FnScope ["one", "other", "matrix"] ["one", "other"] (defScope (top 17)) := ⟨rfl, rfl, rfl, by decide +kernel, rfl, by decide +kernel, by decide +kernel⟩
def c_multiply_costs (s_own_size s_is_matrix s_product_of : Sem2) : S → RS :=
  (seqC (forC (seqI (tupM (consA (vM 0) (consA (vM 1) nilA)))) (bName 2)
  (ifC (notM (trM (callM 2 s_is_matrix (consA (vM 2) (consA (callM 1 s_own_size (consA (vM 0) nilA)) nilA))))) badC nxC))
  (rtC (callM 2 s_product_of (consA (vM 0) (consA (vM 1) nilA)))))
theorem v_multiply_costs {s_own_size s_is_matrix s_product_of : Sem2}
    (V_own_size : FnV false P w K mg base 1 T.f_own_size T.fd_own_size ["value"] (spZ K 1 s_own_size))
    (V_is_matrix : FnV false P w K mg base 2 T.f_is_matrix T.fd_is_matrix ["value", "size"] (spZ K 2 s_is_matrix))
    (V_product_of : FnV false P w K mg base 2 T.f_product_of T.fd_product_of ["one", "other"] (spZ K 2 s_product_of)) :
    FnV false P w K mg base 3 T.f_multiply_costs T.fd_multiply_costs ["one", "other"] (spZ K 2 (runZ 3 (c_multiply_costs s_own_size s_is_matrix s_product_of))) :=
  fnv T.F_multiply_costs sc_multiply_costs fun cdv A outer s H E hr hg tk => by
  have hp := passes_of (X := bodyX P w K mg base ["one", "other", "matrix"] "multiply_costs" (top 17) T.f_multiply_costs cdv A outer s H E) rfl
  exact (zss_cons (zs_for hp rfl (zi_seq (ze_tup (za_cons (ze_var 0) (za_cons (ze_var 1) za_nil)))) (zg_name sc_multiply_costs.nd rfl (by first | exact Or.inl rfl | exact Or.inr rfl))
  (zss_one (zs_if (zt_not (zt_tru (ze_call V_is_matrix (hr.mono (by decide)) gdF T.m_is_matrix T.F_is_matrix.kp T.b_is_matrix tk (za_cons (ze_var 2) (za_cons (ze_call V_own_size (hr.mono (by decide)) gdF T.m_own_size T.F_own_size.kp T.b_own_size tk (za_cons (ze_var 0) za_nil)) za_nil))))) (zss_one zs_never) zss_nil)))
  (zss_one (zs_ret (ze_call V_product_of (hr.mono (by decide)) gdF T.m_product_of T.F_product_of.kp T.b_product_of tk (za_cons (ze_var 0) (za_cons (ze_var 1) za_nil))))))
theorem sc_shape_of : FnScope ["matrix", "row", "item"] ["matrix"] (defScope (top 18)) := ⟨rfl, rfl, rfl, by decide +kernel, rfl, by decide +kernel, by decide +kernel⟩
def c_shape_of (s_own_size s_is_matrix : Sem2) : S → RS :=
  (seqC (ifC (notM (trM (callM 2 s_is_matrix (consA (vM 0) (consA (callM 1 s_own_size (consA (vM 0) nilA)) nilA))))) badC nxC)
  (rtC (loN (lcM (seqI (vM 0)) (bName 1) yesM (loN (lcM (seqI (vM 1)) (bName 2) yesM (ifM (mNt false (vM 2)) (cM (.int 3)) (cbM (g2 min2D) (consA (vM 2) (consA (cM (.int 1)) nilA)))) [2])) [1]))))
theorem v_shape_of {s_own_size s_is_matrix : Sem2}
    (V_own_size : FnV false P w K mg base 1 T.f_own_size T.fd_own_size ["value"] (spZ K 1 s_own_size))
    (V_is_matrix : FnV false P w K mg base 2 T.f_is_matrix T.fd_is_matrix ["value", "size"] (spZ K 2 s_is_matrix)) :
    FnV false P w K mg base 3 T.f_shape_of T.fd_shape_of ["matrix"] (spZ K 1 (runZ 3 (c_shape_of s_own_size s_is_matrix))) :=
  fnv T.F_shape_of sc_shape_of fun cdv A outer s H E hr hg tk => by
  have hp := passes_of (X := bodyX P w K mg base ["matrix", "row", "item"] "shape_of" (top 18) T.f_shape_of cdv A outer s H E) rfl
  exact (zss_cons (zs_if (zt_not (zt_tru (ze_call V_is_matrix (hr.mono (by decide)) gdF T.m_is_matrix T.F_is_matrix.kp T.b_is_matrix tk (za_cons (ze_var 0) (za_cons (ze_call V_own_size (hr.mono (by decide)) gdF T.m_own_size T.F_own_size.kp T.b_own_size tk (za_cons (ze_var 0) za_nil)) za_nil))))) (zss_one zs_never) zss_nil)
  (zss_one (zs_ret (ze_loc (zn_lc (own := [("row", 1)]) rfl sc_shape_of.nd (zi_seq (ze_var 0)) (blkOk_by (by first | (dsimp only [bodyX, cxOf, envOfC]; decide +kernel) | (dsimp only [bodyX, cxOf, envOfC]; simp only [scope_comp]; decide +kernel))) (fun _ _ _ _ _ => (zg_name sc_shape_of.nd rfl (by first | exact Or.inl rfl | exact Or.inr rfl))) (fun _ _ _ _ _ => zts_nil) (fun _ _ _ _ _ => (ze_loc (zn_lc (own := [("item", 2)]) rfl sc_shape_of.nd (zi_seq (ze_var 1)) (blkOk_by (by first | (dsimp only [bodyX, cxOf, envOfC]; decide +kernel) | (dsimp only [bodyX, cxOf, envOfC]; simp only [scope_comp]; decide +kernel))) (fun _ _ _ _ _ => (zg_name sc_shape_of.nd rfl (by first | exact Or.inl rfl | exact Or.inr rfl))) (fun _ _ _ _ _ => zts_nil) (fun _ _ _ _ _ => (ze_if (zt_isN (ze_var 2)) (ze_gint (by rfl) T.k_NEVER T.r_NEVER) (ze_cb zc_min2 (b_min) T.z_min (za_cons (ze_var 2) (za_cons (ze_gint (by rfl) T.k_SOME T.r_SOME) za_nil)))))))))))))
theorem sc__law_take : FnScope ["_law_box_here", "_law_size", "_law_digit", "_law_mixed"] ["_law_box_here", "_law_size"] (defScope (top 26)) := ⟨rfl, rfl, rfl, by decide +kernel, rfl, by decide +kernel, by decide +kernel⟩
def c__law_take : S → RS :=
  (seqC (ifC (fun s => asB ((bM (ixM (vM 0) (cM (.int 0))) (cM (.int 0)) (op2 gtD)) s)) (seqC (setC 2 (bM (ixM (vM 0) (cM (.int 0))) (vM 1) (op2 modD)))
  (seqC (stoC (bM (ixM (vM 0) (cM (.int 0))) (vM 1) (op2 fdivD)) (vM 0) (cM (.int 0)))
  (rtC (vM 2)))) nxC)
  (seqC (stoC (bM (ixM (vM 0) (cM (.int 2))) (cM (.int 1)) (op2 addD)) (vM 0) (cM (.int 2)))
  (seqC (setC 3 (bM (bM (bM (bM (ixM (vM 0) (cM (.int 1))) (cM (.int 48271)) (op2 mulD)) (bM (cM (.int 69621)) (ixM (vM 0) (cM (.int 2))) (op2 mulD)) (op2 addD)) (cM (.int 89)) (op2 addD)) (cM (.int 2147483647)) (op2 modD)))
  (seqC (stoC (bM (bM (bM (vM 3) (cM (.int 3)) (op2 powD)) (bM (cM (.int 6007)) (ixM (vM 0) (cM (.int 2))) (op2 mulD)) (op2 addD)) (cM (.int 2147483647)) (op2 modD)) (vM 0) (cM (.int 1)))
  (rtC (bM (bM (ixM (vM 0) (cM (.int 1))) (cM (.int 16)) (op2 fdivD)) (vM 1) (op2 modD)))))))
theorem v__law_take :
    FnV false P w K mg base 1 T.f__law_take T.fd__law_take ["_law_box_here", "_law_size"] (spZ K 2 (runZ 4 (c__law_take))) :=
  fnv T.F__law_take sc__law_take fun cdv A outer s H E hr hg tk => by
  have hp := passes_of (X := bodyX P w K mg base ["_law_box_here", "_law_size", "_law_digit", "_law_mixed"] "_law_take" (top 26) T.f__law_take cdv A outer s H E) rfl
  exact (zss_cons (zs_if (zt_cmp zo_gt (ze_ix (ze_var 0) ze_int) ze_int (by rfl)) (zss_cons (zs_set (i := 2) sc__law_take.nd rfl (by first | exact Or.inl rfl | exact Or.inr rfl) (ze_bin zo_mod (ze_ix (ze_var 0) ze_int) (ze_var 1)))
  (zss_cons (zs_store (ze_bin zo_fdiv (ze_ix (ze_var 0) ze_int) (ze_var 1)) (ze_var 0) ze_int)
  (zss_one (zs_ret (ze_var 2))))) zss_nil)
  (zss_cons (zs_store (ze_bin zo_add (ze_ix (ze_var 0) ze_int) ze_int) (ze_var 0) ze_int)
  (zss_cons (zs_set (i := 3) sc__law_take.nd rfl (by first | exact Or.inl rfl | exact Or.inr rfl) (ze_bin zo_mod (ze_bin zo_add (ze_bin zo_add (ze_bin zo_mul (ze_ix (ze_var 0) ze_int) ze_int) (ze_bin zo_mul ze_int (ze_ix (ze_var 0) ze_int))) ze_int) ze_int))
  (zss_cons (zs_store (ze_bin zo_mod (ze_bin zo_add (ze_bin zo_pow (ze_var 3) ze_int) (ze_bin zo_mul ze_int (ze_ix (ze_var 0) ze_int))) ze_int) (ze_var 0) ze_int)
  (zss_one (zs_ret (ze_bin zo_mod (ze_bin zo_fdiv (ze_ix (ze_var 0) ze_int) ze_int) (ze_var 1))))))))
theorem sc__law_drawn : FnScope ["_law_box_here", "_law_size", "_law_items", "_law_common", "_law_found", "_law_i", "_law_j"] ["_law_box_here", "_law_size", "_law_items"] (defScope (top 27)) := ⟨rfl, rfl, rfl, by decide +kernel, rfl, by decide +kernel, by decide +kernel⟩
def c__law_drawn (s__law_take : Sem2) : S → RS :=
  (seqC (setC 3 (ixM (vM 2) (callM 2 s__law_take (consA (vM 0) (consA (cbM gLen (consA (vM 2) nilA)) nilA)))))
  (seqC (setC 4 (loN (lstM nilA)))
  (seqC (forC (rngI1 (consA (vM 1) nilA)) (bName 5)
  (appC (vM 4) (frN (lcM (rngI1 (consA (vM 1) nilA)) (bName 6) yesM (ixM (frN (lstM (consA (vM 3) (consA (ixM (vM 2) (callM 2 s__law_take (consA (vM 0) (consA (cbM gLen (consA (vM 2) nilA)) nilA)))) nilA)))) (callM 2 s__law_take (consA (vM 0) (consA (cM (.int 2)) nilA)))) [6]))))
  (rtC (fzM (vM 4))))))
theorem v__law_drawn {s__law_take : Sem2}
    (V__law_take : FnV false P w K mg base 1 T.f__law_take T.fd__law_take ["_law_box_here", "_law_size"] (spZ K 2 s__law_take)) :
    FnV false P w K mg base 2 T.f__law_drawn T.fd__law_drawn ["_law_box_here", "_law_size", "_law_items"] (spZ K 3 (runZ 7 (c__law_drawn s__law_take))) :=
  fnv T.F__law_drawn sc__law_drawn fun cdv A outer s H E hr hg tk => by
  have hp := passes_of (X := bodyX P w K mg base ["_law_box_here", "_law_size", "_law_items", "_law_common", "_law_found", "_law_i", "_law_j"] "_law_drawn" (top 27) T.f__law_drawn cdv A outer s H E) rfl
  exact (zss_cons (zs_set (i := 3) sc__law_drawn.nd rfl (by first | exact Or.inl rfl | exact Or.inr rfl) (ze_ix (ze_var 2) (ze_call V__law_take (hr.mono (by decide)) gdF T.m__law_take T.F__law_take.kp T.b__law_take tk (za_cons (ze_var 0) (za_cons (ze_cb zc_len (b_len) T.z_len (za_cons (ze_var 2) za_nil)) za_nil)))))
  (zss_cons (zs_set (i := 4) sc__law_drawn.nd rfl (by first | exact Or.inl rfl | exact Or.inr rfl) (ze_loc (zn_lst za_nil)))
  (zss_cons (zs_for hp rfl (zi_range1 (by rfl) T.z_range (za_cons (ze_var 1) za_nil)) (zg_name sc__law_drawn.nd rfl (by first | exact Or.inl rfl | exact Or.inr rfl))
  (zss_one (zs_append (ze_var 4) (ze_frz (zn_lc (own := [("_law_j", 6)]) rfl sc__law_drawn.nd (zi_range1 (by rfl) T.z_range (za_cons (ze_var 1) za_nil)) (blkOk_by (by first | (dsimp only [bodyX, cxOf, envOfC]; decide +kernel) | (dsimp only [bodyX, cxOf, envOfC]; simp only [scope_comp]; decide +kernel))) (fun _ _ _ _ _ => (zg_name sc__law_drawn.nd rfl (by first | exact Or.inl rfl | exact Or.inr rfl))) (fun _ _ _ _ _ => zts_nil) (fun _ _ _ _ _ => (ze_ix (ze_frz (zn_lst (za_cons (ze_var 3) (za_cons (ze_ix (ze_var 2) (ze_call V__law_take (hr.mono (by decide)) gdF T.m__law_take T.F__law_take.kp T.b__law_take takesNo (za_cons (ze_var 0) (za_cons (ze_cb zc_len (b_len) T.z_len (za_cons (ze_var 2) za_nil)) za_nil)))) za_nil)))) (ze_call V__law_take (hr.mono (by decide)) gdF T.m__law_take T.F__law_take.kp T.b__law_take takesNo (za_cons (ze_var 0) (za_cons ze_int za_nil))))))))))
  (zss_one (zs_ret (ze_fz (ze_var 4)))))))
theorem sc__law_given : FnScope ["_law_box_here", "_law_matrix", "_law_way", "_law_rows", "_law_row"] ["_law_box_here", "_law_matrix"] (defScope (top 28)) := ⟨rfl, rfl, rfl, by decide +kernel, rfl, by decide +kernel, by decide +kernel⟩
def c__law_given (s__law_take : Sem2) : S → RS :=
  (seqC (setC 2 (callM 2 s__law_take (consA (vM 0) (consA (cM (.int 3)) nilA))))
  (seqC (setC 3 (frN (lcM (seqI (vM 1)) (bName 4) yesM (ifM (fun s => asB ((bM (vM 2) (cM (.int 0)) (op2 gtD)) s)) (cbM gTuple (consA (vM 4) nilA)) (frN (cbM gList (consA (vM 4) nilA)))) [4])))
  (rtC (ifM (fun s => asB ((bM (vM 2) (cM (.int 2)) (eqG false)) s)) (cbM gTuple (consA (vM 3) nilA)) (vM 3)))))
theorem v__law_given {s__law_take : Sem2}
    (V__law_take : FnV false P w K mg base 1 T.f__law_take T.fd__law_take ["_law_box_here", "_law_size"] (spZ K 2 s__law_take)) :
    FnV false P w K mg base 2 T.f__law_given T.fd__law_given ["_law_box_here", "_law_matrix"] (spZ K 2 (runZ 5 (c__law_given s__law_take))) :=
  fnv T.F__law_given sc__law_given fun cdv A outer s H E hr hg tk => by
  have hp := passes_of (X := bodyX P w K mg base ["_law_box_here", "_law_matrix", "_law_way", "_law_rows", "_law_row"] "_law_given" (top 28) T.f__law_given cdv A outer s H E) rfl
  exact (zss_cons (zs_set (i := 2) sc__law_given.nd rfl (by first | exact Or.inl rfl | exact Or.inr rfl) (ze_call V__law_take (hr.mono (by decide)) gdF T.m__law_take T.F__law_take.kp T.b__law_take tk (za_cons (ze_var 0) (za_cons ze_int za_nil))))
  (zss_cons (zs_setLc (i := 3) (own := [("_law_row", 4)]) rfl sc__law_given.nd rfl rfl (sw_true rfl rfl rfl (by decide +kernel)) (zi_seq (ze_var 1)) (blkOk_by (by first | (dsimp only [bodyX, cxOf, envOfC]; decide +kernel) | (dsimp only [bodyX, cxOf, envOfC]; simp only [scope_comp]; decide +kernel))) (fun _ _ _ _ _ => (zg_name sc__law_given.nd rfl (by first | exact Or.inl rfl | exact Or.inr rfl))) (fun _ _ _ _ _ => zts_nil) (fun _ _ _ _ _ => (ze_if (zt_cmp zo_gt (ze_var 2) ze_int (by rfl)) (ze_cty zc_tuple (b_tuple) T.z_tuple (za_cons (ze_var 4) za_nil)) (ze_frz (zn_cty zcn_list (b_list) T.z_list (za_cons (ze_var 4) za_nil))))))
  (zss_one (zs_ret (ze_if (zt_eq hr.units (ze_var 2) ze_int) (ze_cty zc_tuple (b_tuple) T.z_tuple (za_cons (ze_var 3) za_nil)) (ze_var 3))))))
theorem sc__law_sums : FnScope ["_law_one", "_law_other", "_law_size", "_law_found", "_law_row", "_law_line", "_law_j", "_law_sums_here", "_law_k"] ["_law_one", "_law_other"] (defScope (top 29)) := ⟨rfl, rfl, rfl, by decide +kernel, rfl, by decide +kernel, by decide +kernel⟩
def c__law_sums : S → RS :=
  (seqC (parC 2 3 (consA (cbM gLen (consA (vM 0) nilA)) (consA (loN (lstM nilA)) nilA)))
  (seqC (forC (seqI (vM 0)) (bName 4)
  (seqC (setC 5 (loN (lstM nilA)))
  (seqC (forC (rngI1 (consA (vM 2) nilA)) (bName 6)
  (seqC (setC 7 (frN (lcM (rngI1 (consA (vM 2) nilA)) (bName 8) (andM (mNt true (ixM (vM 4) (vM 8))) (mNt true (ixM (ixM (vM 1) (vM 8)) (vM 6)))) (bM (ixM (vM 4) (vM 8)) (ixM (ixM (vM 1) (vM 8)) (vM 6)) (op2 addD)) [8])))
  (appC (vM 5) (ifM (fun s => asB ((bM (vM 7) (frN (lstM nilA)) (eqG true)) s)) (cbM (g1 minD) (consA (vM 7) nilA)) (cM .non)))))
  (appC (vM 3) (fzM (vM 5))))))
  (rtC (fzM (vM 3)))))
theorem v__law_sums :
    FnV false P w K mg base 1 T.f__law_sums T.fd__law_sums ["_law_one", "_law_other"] (spZ K 2 (runZ 9 (c__law_sums))) :=
  fnv T.F__law_sums sc__law_sums fun cdv A outer s H E hr hg tk => by
  have hp := passes_of (X := bodyX P w K mg base ["_law_one", "_law_other", "_law_size", "_law_found", "_law_row", "_law_line", "_law_j", "_law_sums_here", "_law_k"] "_law_sums" (top 29) T.f__law_sums cdv A outer s H E) rfl
  exact (zss_cons (zs_par (i := 2) (j := 3) rfl sc__law_sums.nd rfl rfl (by decide) rfl rfl (za_cons (ze_cb zc_len (b_len) T.z_len (za_cons (ze_var 0) za_nil)) (za_cons (ze_loc (zn_lst za_nil)) za_nil)))
  (zss_cons (zs_for hp rfl (zi_seq (ze_var 0)) (zg_name sc__law_sums.nd rfl (by first | exact Or.inl rfl | exact Or.inr rfl))
  (zss_cons (zs_set (i := 5) sc__law_sums.nd rfl (by first | exact Or.inl rfl | exact Or.inr rfl) (ze_loc (zn_lst za_nil)))
  (zss_cons (zs_for hp rfl (zi_range1 (by rfl) T.z_range (za_cons (ze_var 2) za_nil)) (zg_name sc__law_sums.nd rfl (by first | exact Or.inl rfl | exact Or.inr rfl))
  (zss_cons (zs_setLc (i := 7) (own := [("_law_k", 8)]) rfl sc__law_sums.nd rfl rfl (sw_true rfl rfl rfl (by decide +kernel)) (zi_range1 (by rfl) T.z_range (za_cons (ze_var 2) za_nil)) (blkOk_by (by first | (dsimp only [bodyX, cxOf, envOfC]; decide +kernel) | (dsimp only [bodyX, cxOf, envOfC]; simp only [scope_comp]; decide +kernel))) (fun _ _ _ _ _ => (zg_name sc__law_sums.nd rfl (by first | exact Or.inl rfl | exact Or.inr rfl))) (fun _ _ _ _ _ => (zts_one (zt_bo (zw_and (zt_notN (ze_ix (ze_var 4) (ze_var 8))) (zw_and1 (zt_notN (ze_ix (ze_ix (ze_var 1) (ze_var 8)) (ze_var 6)))))))) (fun _ _ _ _ _ => (ze_bin zo_add (ze_ix (ze_var 4) (ze_var 8)) (ze_ix (ze_ix (ze_var 1) (ze_var 8)) (ze_var 6)))))
  (zss_one (zs_append (ze_var 5) (ze_if (zt_ne hr.units (ze_var 7) (ze_frz (zn_lst za_nil))) (ze_cb zc_min (b_min) T.z_min (za_cons (ze_var 7) za_nil)) ze_non)))))
  (zss_one (zs_append (ze_var 3) (ze_fz (ze_var 5)))))))
  (zss_one (zs_ret (ze_fz (ze_var 3))))))
theorem sc__law_costs_right : FnScope ["_law_box_here", "_law_size", "_law_items", "_law_one", "_law_other", "_law_first", "_law_second", "_law_kept", "_law_found", "_law_row", "_law_due", "_law_item"] ["_law_box_here", "_law_size"] (defScope (top 31)) := ⟨rfl, rfl, rfl, by decide +kernel, rfl, by decide +kernel, by decide +kernel⟩
def c__law_costs_right (s__law_drawn s__law_given s_multiply_costs s__law_sums s_shape_of : Sem2) : S → RS :=
  (seqC (setC 2 (frN (lstM (consA (cM (.int 0)) (consA (cM (.int 1)) (consA (cM (.int 2)) (consA (cM (.int 9)) (consA (cM .non) (consA (cM .non) (consA (bM (bM (cM (.int 10)) (cM (.int 30)) (op2 powD)) (cM (.int 1)) (op2 subD)) (consA (cM (.int 5)) nilA)))))))))))
  (seqC (parC 3 4 (consA (callM 3 s__law_drawn (consA (vM 0) (consA (vM 1) (consA (vM 2) nilA)))) (consA (callM 3 s__law_drawn (consA (vM 0) (consA (vM 1) (consA (vM 2) nilA)))) nilA)))
  (seqC (parC 5 6 (consA (callM 2 s__law_given (consA (vM 0) (consA (vM 3) nilA))) (consA (callM 2 s__law_given (consA (vM 0) (consA (vM 4) nilA))) nilA)))
  (seqC (setC 7 (cbM gRepr (consA (frN (lstM (consA (vM 5) (consA (vM 6) nilA)))) nilA)))
  (seqC (setC 8 (callM 2 s_multiply_costs (consA (vM 5) (consA (vM 6) nilA))))
  (seqC (ifC (fun s => asB ((bM (cbM gRepr (consA (vM 8) nilA)) (cbM gRepr (consA (callM 2 s__law_sums (consA (vM 3) (consA (vM 4) nilA))) nilA)) (eqG true)) s)) (rtC (cM (.bl false))) nxC)
  (seqC (forC (seqI (vM 8)) (bName 9)
  (appC (vM 9) (cM (.int 7))))
  (seqC (ifC (orM (fun s => asB ((bM (frN (lcM (seqI (vM 8)) (bName 9) yesM (cbM gLen (consA (vM 9) nilA)) [9])) (frN (repN (frN (lstM (consA (bM (vM 1) (cM (.int 1)) (op2 addD)) nilA))) (vM 1))) (eqG true)) s)) (fun s => asB ((bM (cbM gRepr (consA (frN (lstM (consA (vM 5) (consA (vM 6) nilA)))) nilA)) (vM 7) (eqG true)) s))) (rtC (cM (.bl false))) nxC)
  (seqC (setC 10 (frN (lcM (seqI (vM 3)) (bName 9) yesM (frN (lcM (seqI (vM 9)) (bName 11) yesM (ifM (mNt false (vM 11)) (cM (.int 3)) (cbM (g1 intD) (consA (bM (vM 11) (cM (.int 0)) (op2 gtD)) nilA))) [11])) [9])))
  (seqC (setC 8 (callM 1 s_shape_of (consA (vM 5) nilA)))
  (seqC (ifC (orM (fun s => asB ((bM (cbM gRepr (consA (vM 8) nilA)) (cbM gRepr (consA (vM 10) nilA)) (eqG true)) s)) (fun s => asB ((bM (cbM gRepr (consA (frN (lstM (consA (vM 5) (consA (vM 6) nilA)))) nilA)) (vM 7) (eqG true)) s))) (rtC (cM (.bl false))) nxC)
  (seqC (forC (seqI (vM 8)) (bName 9)
  (appC (vM 9) (cM (.int 9))))
  (rtC (andV (bM (frN (lcM (seqI (vM 8)) (bName 9) yesM (cbM gLen (consA (vM 9) nilA)) [9])) (frN (repN (frN (lstM (consA (bM (vM 1) (cM (.int 1)) (op2 addD)) nilA))) (vM 1))) (eqG false)) (bM (callM 1 s_shape_of (consA (vM 5) nilA)) (vM 10) (eqG false))))))))))))))))
theorem v__law_costs_right {s__law_drawn s__law_given s_multiply_costs s__law_sums s_shape_of : Sem2}
    (V__law_drawn : FnV false P w K mg base 2 T.f__law_drawn T.fd__law_drawn ["_law_box_here", "_law_size", "_law_items"] (spZ K 3 s__law_drawn))
    (V__law_given : FnV false P w K mg base 2 T.f__law_given T.fd__law_given ["_law_box_here", "_law_matrix"] (spZ K 2 s__law_given))
    (V_multiply_costs : FnV false P w K mg base 3 T.f_multiply_costs T.fd_multiply_costs ["one", "other"] (spZ K 2 s_multiply_costs))
    (V__law_sums : FnV false P w K mg base 1 T.f__law_sums T.fd__law_sums ["_law_one", "_law_other"] (spZ K 2 s__law_sums))
    (V_shape_of : FnV false P w K mg base 3 T.f_shape_of T.fd_shape_of ["matrix"] (spZ K 1 s_shape_of)) :
    FnV true P w K mg base 4 T.f__law_costs_right T.fd__law_costs_right ["_law_box_here", "_law_size"] (spZ K 2 (runZ 12 (c__law_costs_right s__law_drawn s__law_given s_multiply_costs s__law_sums s_shape_of))) :=
  fnv T.F__law_costs_right sc__law_costs_right fun cdv A outer s H E hr hg tk => by
  have hp := passes_of (X := bodyX P w K mg base ["_law_box_here", "_law_size", "_law_items", "_law_one", "_law_other", "_law_first", "_law_second", "_law_kept", "_law_found", "_law_row", "_law_due", "_law_item"] "_law_costs_right" (top 31) T.f__law_costs_right cdv A outer s H E) rfl
  exact (zss_cons (zs_set (i := 2) sc__law_costs_right.nd rfl (by first | exact Or.inl rfl | exact Or.inr rfl) (ze_frz (zn_lst (za_cons ze_int (za_cons ze_int (za_cons ze_int (za_cons ze_int (za_cons ze_non (za_cons ze_non (za_cons (ze_bin zo_sub (ze_bin zo_pow ze_int ze_int) ze_int) (za_cons ze_int za_nil)))))))))))
  (zss_cons (zs_par (i := 3) (j := 4) rfl sc__law_costs_right.nd rfl rfl (by decide) rfl rfl (za_cons (ze_call V__law_drawn (hr.mono (by decide)) gdF T.m__law_drawn T.F__law_drawn.kp T.b__law_drawn tk (za_cons (ze_var 0) (za_cons (ze_var 1) (za_cons (ze_var 2) za_nil)))) (za_cons (ze_call V__law_drawn (hr.mono (by decide)) gdF T.m__law_drawn T.F__law_drawn.kp T.b__law_drawn tk (za_cons (ze_var 0) (za_cons (ze_var 1) (za_cons (ze_var 2) za_nil)))) za_nil)))
  (zss_cons (zs_par (i := 5) (j := 6) rfl sc__law_costs_right.nd rfl rfl (by decide) rfl rfl (za_cons (ze_call V__law_given (hr.mono (by decide)) gdF T.m__law_given T.F__law_given.kp T.b__law_given tk (za_cons (ze_var 0) (za_cons (ze_var 3) za_nil))) (za_cons (ze_call V__law_given (hr.mono (by decide)) gdF T.m__law_given T.F__law_given.kp T.b__law_given tk (za_cons (ze_var 0) (za_cons (ze_var 4) za_nil))) za_nil)))
  (zss_cons (zs_set (i := 7) sc__law_costs_right.nd rfl (by first | exact Or.inl rfl | exact Or.inr rfl) (ze_cb (zc_repr (hg rfl) (units66 hr)) (b_repr) T.z_repr (za_cons (ze_frz (zn_lst (za_cons (ze_var 5) (za_cons (ze_var 6) za_nil)))) za_nil)))
  (zss_cons (zs_set (i := 8) sc__law_costs_right.nd rfl (by first | exact Or.inl rfl | exact Or.inr rfl) (ze_call V_multiply_costs (hr.mono (by decide)) gdF T.m_multiply_costs T.F_multiply_costs.kp T.b_multiply_costs tk (za_cons (ze_var 5) (za_cons (ze_var 6) za_nil))))
  (zss_cons (zs_if (zt_ne hr.units (ze_cb (zc_repr (hg rfl) (units66 hr)) (b_repr) T.z_repr (za_cons (ze_var 8) za_nil)) (ze_cb (zc_repr (hg rfl) (units66 hr)) (b_repr) T.z_repr (za_cons (ze_call V__law_sums (hr.mono (by decide)) gdF T.m__law_sums T.F__law_sums.kp T.b__law_sums tk (za_cons (ze_var 3) (za_cons (ze_var 4) za_nil))) za_nil))) (zss_one (zs_ret ze_bl)) zss_nil)
  (zss_cons (zs_for hp rfl (zi_seq (ze_var 8)) (zg_name sc__law_costs_right.nd rfl (by first | exact Or.inl rfl | exact Or.inr rfl))
  (zss_one (zs_append (ze_var 9) ze_int)))
  (zss_cons (zs_if (zt_bo (zw_or (zt_ne hr.units (ze_frz (zn_lc (own := [("_law_row", 9)]) rfl sc__law_costs_right.nd (zi_seq (ze_var 8)) (blkOk_by (by first | (dsimp only [bodyX, cxOf, envOfC]; decide +kernel) | (dsimp only [bodyX, cxOf, envOfC]; simp only [scope_comp]; decide +kernel))) (fun _ _ _ _ _ => (zg_name sc__law_costs_right.nd rfl (by first | exact Or.inl rfl | exact Or.inr rfl))) (fun _ _ _ _ _ => zts_nil) (fun _ _ _ _ _ => (ze_cb zc_len (b_len) T.z_len (za_cons (ze_var 9) za_nil))))) (ze_frz (zn_rep (ze_frz (zn_lst (za_cons (ze_bin zo_add (ze_var 1) ze_int) za_nil))) (ze_var 1)))) (zw_or1 (zt_ne hr.units (ze_cb (zc_repr (hg rfl) (units66 hr)) (b_repr) T.z_repr (za_cons (ze_frz (zn_lst (za_cons (ze_var 5) (za_cons (ze_var 6) za_nil)))) za_nil)) (ze_var 7))))) (zss_one (zs_ret ze_bl)) zss_nil)
  (zss_cons (zs_setLc (i := 10) (own := [("_law_row", 9)]) rfl sc__law_costs_right.nd rfl rfl (sw_true rfl rfl rfl (by decide +kernel)) (zi_seq (ze_var 3)) (blkOk_by (by first | (dsimp only [bodyX, cxOf, envOfC]; decide +kernel) | (dsimp only [bodyX, cxOf, envOfC]; simp only [scope_comp]; decide +kernel))) (fun _ _ _ _ _ => (zg_name sc__law_costs_right.nd rfl (by first | exact Or.inl rfl | exact Or.inr rfl))) (fun _ _ _ _ _ => zts_nil) (fun _ _ _ _ _ => (ze_frz (zn_lc (own := [("_law_item", 11)]) rfl sc__law_costs_right.nd (zi_seq (ze_var 9)) (blkOk_by (by first | (dsimp only [bodyX, cxOf, envOfC]; decide +kernel) | (dsimp only [bodyX, cxOf, envOfC]; simp only [scope_comp]; decide +kernel))) (fun _ _ _ _ _ => (zg_name sc__law_costs_right.nd rfl (by first | exact Or.inl rfl | exact Or.inr rfl))) (fun _ _ _ _ _ => zts_nil) (fun _ _ _ _ _ => (ze_if (zt_isN (ze_var 11)) ze_int (ze_cty zc_int (b_int) T.z_int (za_cons (ze_cmp zo_gt (ze_var 11) ze_int (by rfl)) za_nil))))))))
  (zss_cons (zs_set (i := 8) sc__law_costs_right.nd rfl (by first | exact Or.inl rfl | exact Or.inr rfl) (ze_call V_shape_of (hr.mono (by decide)) gdF T.m_shape_of T.F_shape_of.kp T.b_shape_of tk (za_cons (ze_var 5) za_nil)))
  (zss_cons (zs_if (zt_bo (zw_or (zt_ne hr.units (ze_cb (zc_repr (hg rfl) (units66 hr)) (b_repr) T.z_repr (za_cons (ze_var 8) za_nil)) (ze_cb (zc_repr (hg rfl) (units66 hr)) (b_repr) T.z_repr (za_cons (ze_var 10) za_nil))) (zw_or1 (zt_ne hr.units (ze_cb (zc_repr (hg rfl) (units66 hr)) (b_repr) T.z_repr (za_cons (ze_frz (zn_lst (za_cons (ze_var 5) (za_cons (ze_var 6) za_nil)))) za_nil)) (ze_var 7))))) (zss_one (zs_ret ze_bl)) zss_nil)
  (zss_cons (zs_for hp rfl (zi_seq (ze_var 8)) (zg_name sc__law_costs_right.nd rfl (by first | exact Or.inl rfl | exact Or.inr rfl))
  (zss_one (zs_append (ze_var 9) ze_int)))
  (zss_one (zs_ret (ze_and (ze_eq hr.units (ze_frz (zn_lc (own := [("_law_row", 9)]) rfl sc__law_costs_right.nd (zi_seq (ze_var 8)) (blkOk_by (by first | (dsimp only [bodyX, cxOf, envOfC]; decide +kernel) | (dsimp only [bodyX, cxOf, envOfC]; simp only [scope_comp]; decide +kernel))) (fun _ _ _ _ _ => (zg_name sc__law_costs_right.nd rfl (by first | exact Or.inl rfl | exact Or.inr rfl))) (fun _ _ _ _ _ => zts_nil) (fun _ _ _ _ _ => (ze_cb zc_len (b_len) T.z_len (za_cons (ze_var 9) za_nil))))) (ze_frz (zn_rep (ze_frz (zn_lst (za_cons (ze_bin zo_add (ze_var 1) ze_int) za_nil))) (ze_var 1)))) (ze_and1 (ze_eq hr.units (ze_call V_shape_of (hr.mono (by decide)) gdF T.m_shape_of T.F_shape_of.kp T.b_shape_of tk (za_cons (ze_var 5) za_nil)) (ze_var 10))))))))))))))))))
theorem sc_is_between : FnScope ["value", "low", "high"] ["value", "low", "high"] (defScope (top 5)) := ⟨rfl, rfl, rfl, by decide +kernel, rfl, by decide +kernel, by decide +kernel⟩
def c_is_between (s_is_integer : Sem2) : S → RS :=
  (rtC (andV (callM 1 s_is_integer (consA (vM 0) nilA)) (chM (vM 1) (vM 0) (vM 2) leD leD)))
theorem v_is_between {s_is_integer : Sem2}
    (V_is_integer : FnV false P w K mg base 1 T.f_is_integer T.fd_is_integer ["value"] (spZ K 1 s_is_integer)) :
    FnV false P w K mg base 2 T.f_is_between T.fd_is_between ["value", "low", "high"] (spZ K 3 (runZ 3 (c_is_between s_is_integer))) :=
  fnv T.F_is_between sc_is_between fun cdv A outer s H E hr hg tk => by
  have hp := passes_of (X := bodyX P w K mg base ["value", "low", "high"] "is_between" (top 5) T.f_is_between cdv A outer s H E) rfl
  exact (zss_one (zs_ret (ze_and (ze_call V_is_integer (hr.mono (by decide)) gdF T.m_is_integer T.F_is_integer.kp T.b_is_integer tk (za_cons (ze_var 0) za_nil)) (ze_and1 (ze_chain zo_le zo_le (ze_var 1) (ze_var 0) (ze_var 2))))))
theorem sc_is_shape : FnScope ["value", "size", "row", "item"] ["value", "size"] (defScope (top 15)) := ⟨rfl, rfl, rfl, by decide +kernel, rfl, by decide +kernel, by decide +kernel⟩
def c_is_shape (s_is_square s_is_between : Sem2) : S → RS :=
  (rtC (andV (callM 2 s_is_square (consA (vM 0) (consA (vM 1) nilA))) (cbM (g1 allD) (consA (frN (lc2M (seqI (vM 0)) (bName 2) yesM (seqI (vM 2)) (bName 3) yesM (callM 3 s_is_between (consA (vM 3) (consA (cM (.int 0)) (consA (cM (.int 3)) nilA)))) [2, 3] [3])) nilA))))
theorem v_is_shape {s_is_square s_is_between : Sem2}
    (V_is_square : FnV false P w K mg base 1 T.f_is_square T.fd_is_square ["value", "size"] (spZ K 2 s_is_square))
    (V_is_between : FnV false P w K mg base 2 T.f_is_between T.fd_is_between ["value", "low", "high"] (spZ K 3 s_is_between)) :
    FnV false P w K mg base 3 T.f_is_shape T.fd_is_shape ["value", "size"] (spZ K 2 (runZ 4 (c_is_shape s_is_square s_is_between))) :=
  fnv T.F_is_shape sc_is_shape fun cdv A outer s H E hr hg tk => by
  have hp := passes_of (X := bodyX P w K mg base ["value", "size", "row", "item"] "is_shape" (top 15) T.f_is_shape cdv A outer s H E) rfl
  exact (zss_one (zs_ret (ze_and (ze_call V_is_square (hr.mono (by decide)) gdF T.m_is_square T.F_is_square.kp T.b_is_square tk (za_cons (ze_var 0) (za_cons (ze_var 1) za_nil))) (ze_and1 (ze_cb zc_all (b_all) T.z_all (za_cons (ze_frz (zn_lc2 (own := [("row", 2), ("item", 3)]) (vs1 := [3]) rfl sc_is_shape.nd (zi_seq (ze_var 0)) (blkOk_by (by first | (dsimp only [bodyX, cxOf, envOfC]; decide +kernel) | (dsimp only [bodyX, cxOf, envOfC]; simp only [scope_comp]; decide +kernel))) (by decide) (fun _ _ _ _ _ => (zg_more (by decide) (zg_name sc_is_shape.nd rfl (by first | exact Or.inl rfl | exact Or.inr rfl)))) (fun _ _ _ _ _ => zts_nil) (fun _ _ _ _ _ => (zi_seq (ze_var 2))) (fun _ _ _ _ _ => (zg_name sc_is_shape.nd rfl (by first | exact Or.inl rfl | exact Or.inr rfl))) (fun _ _ _ _ _ => zts_nil) (fun _ _ _ _ _ => (ze_call V_is_between (hr.mono (by decide)) gdF T.m_is_between T.F_is_between.kp T.b_is_between takesNo (za_cons (ze_var 3) (za_cons (ze_gint (by rfl) T.k_FREE T.r_FREE) (za_cons (ze_gint (by rfl) T.k_NEVER T.r_NEVER) za_nil))))))) za_nil))))))
theorem sc_check_shape : FnScope ["shape", "size"] ["shape", "size"] (defScope (top 20)) := ⟨rfl, rfl, rfl, by decide +kernel, rfl, by decide +kernel, by decide +kernel⟩
def c_check_shape (s_is_shape : Sem2) : S → RS :=
  (ifC (notM (trM (callM 2 s_is_shape (consA (vM 0) (consA (vM 1) nilA))))) badC nxC)
theorem v_check_shape {s_is_shape : Sem2}
    (V_is_shape : FnV false P w K mg base 3 T.f_is_shape T.fd_is_shape ["value", "size"] (spZ K 2 s_is_shape)) :
    FnV false P w K mg base 4 T.f_check_shape T.fd_check_shape ["shape", "size"] (spZ K 2 (runZ 2 (c_check_shape s_is_shape))) :=
  fnv T.F_check_shape sc_check_shape fun cdv A outer s H E hr hg tk => by
  have hp := passes_of (X := bodyX P w K mg base ["shape", "size"] "check_shape" (top 20) T.f_check_shape cdv A outer s H E) rfl
  exact (zss_one (zs_if (zt_not (zt_tru (ze_call V_is_shape (hr.mono (by decide)) gdF T.m_is_shape T.F_is_shape.kp T.b_is_shape tk (za_cons (ze_var 0) (za_cons (ze_var 1) za_nil))))) (zss_one zs_never) zss_nil))
theorem sc_joined_shape : FnScope ["one", "other", "columns", "place", "row", "column", "a", "b"] ["one", "other"] (defScope (top 19)) := ⟨rfl, rfl, rfl, by decide +kernel, rfl, by decide +kernel, by decide +kernel⟩
def c_joined_shape : S → RS :=
  (seqC (setC 2 (frN (lcM (rngI1 (consA (cbM gLen (consA (vM 1) nilA)) nilA)) (bName 3) yesM (frN (lcM (seqI (vM 1)) (bName 4) yesM (ixM (vM 4) (vM 3)) [4])) [3])))
  (rtC (loN (lcM (seqI (vM 0)) (bName 4) yesM (loN (lcM (seqI (vM 2)) (bName 5) yesM (cbM (g1 minD) (consA (frN (lcM (zipI (consA (vM 4) (consA (vM 5) nilA))) (bTup 2 (bCons (bName 6) (bCons (bName 7) bNil))) yesM (cbM (g2 max2D) (consA (vM 6) (consA (vM 7) nilA))) [6, 7])) nilA)) [5])) [4]))))
theorem v_joined_shape :
    FnV false P w K mg base 1 T.f_joined_shape T.fd_joined_shape ["one", "other"] (spZ K 2 (runZ 8 (c_joined_shape))) :=
  fnv T.F_joined_shape sc_joined_shape fun cdv A outer s H E hr hg tk => by
  have hp := passes_of (X := bodyX P w K mg base ["one", "other", "columns", "place", "row", "column", "a", "b"] "joined_shape" (top 19) T.f_joined_shape cdv A outer s H E) rfl
  exact (zss_cons (zs_set (i := 2) sc_joined_shape.nd rfl (by first | exact Or.inl rfl | exact Or.inr rfl) (ze_frz (zn_lc (own := [("place", 3)]) rfl sc_joined_shape.nd (zi_range1 (by rfl) T.z_range (za_cons (ze_cb zc_len (b_len) T.z_len (za_cons (ze_var 1) za_nil)) za_nil)) (blkOk_by (by first | (dsimp only [bodyX, cxOf, envOfC]; decide +kernel) | (dsimp only [bodyX, cxOf, envOfC]; simp only [scope_comp]; decide +kernel))) (fun _ _ _ _ _ => (zg_name sc_joined_shape.nd rfl (by first | exact Or.inl rfl | exact Or.inr rfl))) (fun _ _ _ _ _ => zts_nil) (fun _ _ _ _ _ => (ze_frz (zn_lc (own := [("row", 4)]) rfl sc_joined_shape.nd (zi_seq (ze_var 1)) (blkOk_by (by first | (dsimp only [bodyX, cxOf, envOfC]; decide +kernel) | (dsimp only [bodyX, cxOf, envOfC]; simp only [scope_comp]; decide +kernel))) (fun _ _ _ _ _ => (zg_name sc_joined_shape.nd rfl (by first | exact Or.inl rfl | exact Or.inr rfl))) (fun _ _ _ _ _ => zts_nil) (fun _ _ _ _ _ => (ze_ix (ze_var 4) (ze_var 3)))))))))
  (zss_one (zs_ret (ze_loc (zn_lc (own := [("row", 4)]) rfl sc_joined_shape.nd (zi_seq (ze_var 0)) (blkOk_by (by first | (dsimp only [bodyX, cxOf, envOfC]; decide +kernel) | (dsimp only [bodyX, cxOf, envOfC]; simp only [scope_comp]; decide +kernel))) (fun _ _ _ _ _ => (zg_name sc_joined_shape.nd rfl (by first | exact Or.inl rfl | exact Or.inr rfl))) (fun _ _ _ _ _ => zts_nil) (fun _ _ _ _ _ => (ze_loc (zn_lc (own := [("column", 5)]) rfl sc_joined_shape.nd (zi_seq (ze_var 2)) (blkOk_by (by first | (dsimp only [bodyX, cxOf, envOfC]; decide +kernel) | (dsimp only [bodyX, cxOf, envOfC]; simp only [scope_comp]; decide +kernel))) (fun _ _ _ _ _ => (zg_name sc_joined_shape.nd rfl (by first | exact Or.inl rfl | exact Or.inr rfl))) (fun _ _ _ _ _ => zts_nil) (fun _ _ _ _ _ => (ze_cb zc_min (b_min) T.z_min (za_cons (ze_frz (zn_lc (own := [("a", 6), ("b", 7)]) rfl sc_joined_shape.nd (zi_zip (by rfl) T.z_zip (za_cons (ze_var 4) (za_cons (ze_var 5) za_nil))) (blkOk_by (by first | (dsimp only [bodyX, cxOf, envOfC]; decide +kernel) | (dsimp only [bodyX, cxOf, envOfC]; simp only [scope_comp]; decide +kernel))) (fun _ _ _ _ _ => (zg_tup rfl (zgs_cons (zg_name sc_joined_shape.nd rfl (by first | exact Or.inl rfl | exact Or.inr rfl)) (zgs_cons (zg_name sc_joined_shape.nd rfl (by first | exact Or.inl rfl | exact Or.inr rfl)) zgs_nil)))) (fun _ _ _ _ _ => zts_nil) (fun _ _ _ _ _ => (ze_cb zc_max2 (b_max) T.z_max (za_cons (ze_var 6) (za_cons (ze_var 7) za_nil)))))) za_nil)))))))))))
theorem sc_multiply_shapes : FnScope ["one", "other"] ["one", "other"] (defScope (top 21)) := ⟨rfl, rfl, rfl, by decide +kernel, rfl, by decide +kernel, by decide +kernel⟩
def c_multiply_shapes (s_own_size s_check_shape s_joined_shape : Sem2) : S → RS :=
  (seqC (drC (callM 2 s_check_shape (consA (vM 0) (consA (callM 1 s_own_size (consA (vM 0) nilA)) nilA))))
  (seqC (drC (callM 2 s_check_shape (consA (vM 1) (consA (cbM gLen (consA (vM 0) nilA)) nilA))))
  (rtC (callM 2 s_joined_shape (consA (vM 0) (consA (vM 1) nilA))))))
theorem v_multiply_shapes {s_own_size s_check_shape s_joined_shape : Sem2}
    (V_own_size : FnV false P w K mg base 1 T.f_own_size T.fd_own_size ["value"] (spZ K 1 s_own_size))
    (V_check_shape : FnV false P w K mg base 4 T.f_check_shape T.fd_check_shape ["shape", "size"] (spZ K 2 s_check_shape))
    (V_joined_shape : FnV false P w K mg base 1 T.f_joined_shape T.fd_joined_shape ["one", "other"] (spZ K 2 s_joined_shape)) :
    FnV false P w K mg base 5 T.f_multiply_shapes T.fd_multiply_shapes ["one", "other"] (spZ K 2 (runZ 2 (c_multiply_shapes s_own_size s_check_shape s_joined_shape))) :=
  fnv T.F_multiply_shapes sc_multiply_shapes fun cdv A outer s H E hr hg tk => by
  have hp := passes_of (X := bodyX P w K mg base ["one", "other"] "multiply_shapes" (top 21) T.f_multiply_shapes cdv A outer s H E) rfl
  exact (zss_cons (zs_expr (ze_call V_check_shape (hr.mono (by decide)) gdF T.m_check_shape T.F_check_shape.kp T.b_check_shape tk (za_cons (ze_var 0) (za_cons (ze_call V_own_size (hr.mono (by decide)) gdF T.m_own_size T.F_own_size.kp T.b_own_size tk (za_cons (ze_var 0) za_nil)) za_nil))))
  (zss_cons (zs_expr (ze_call V_check_shape (hr.mono (by decide)) gdF T.m_check_shape T.F_check_shape.kp T.b_check_shape tk (za_cons (ze_var 1) (za_cons (ze_cb zc_len (b_len) T.z_len (za_cons (ze_var 0) za_nil)) za_nil))))
  (zss_one (zs_ret (ze_call V_joined_shape (hr.mono (by decide)) gdF T.m_joined_shape T.F_joined_shape.kp T.b_joined_shape tk (za_cons (ze_var 0) (za_cons (ze_var 1) za_nil)))))))
theorem sc__law_paths : FnScope ["_law_one", "_law_other", "_law_size", "_law_row", "_law_j", "_law_k"] ["_law_one", "_law_other"] (defScope (top 30)) := ⟨rfl, rfl, rfl, by decide +kernel, rfl, by decide +kernel, by decide +kernel⟩
def c__law_paths : S → RS :=
  (seqC (setC 2 (cbM gLen (consA (vM 0) nilA)))
  (rtC (frN (lcM (seqI (vM 0)) (bName 3) yesM (frN (lcM (rngI1 (consA (vM 2) nilA)) (bName 4) yesM (cbM (g1 minD) (consA (frN (lcM (rngI1 (consA (vM 2) nilA)) (bName 5) yesM (cbM (g2 max2D) (consA (ixM (vM 3) (vM 5)) (consA (ixM (ixM (vM 1) (vM 5)) (vM 4)) nilA))) [5])) nilA)) [4])) [3]))))
theorem v__law_paths :
    FnV false P w K mg base 1 T.f__law_paths T.fd__law_paths ["_law_one", "_law_other"] (spZ K 2 (runZ 6 (c__law_paths))) :=
  fnv T.F__law_paths sc__law_paths fun cdv A outer s H E hr hg tk => by
  have hp := passes_of (X := bodyX P w K mg base ["_law_one", "_law_other", "_law_size", "_law_row", "_law_j", "_law_k"] "_law_paths" (top 30) T.f__law_paths cdv A outer s H E) rfl
  exact (zss_cons (zs_set (i := 2) sc__law_paths.nd rfl (by first | exact Or.inl rfl | exact Or.inr rfl) (ze_cb zc_len (b_len) T.z_len (za_cons (ze_var 0) za_nil)))
  (zss_one (zs_ret (ze_frz (zn_lc (own := [("_law_row", 3)]) rfl sc__law_paths.nd (zi_seq (ze_var 0)) (blkOk_by (by first | (dsimp only [bodyX, cxOf, envOfC]; decide +kernel) | (dsimp only [bodyX, cxOf, envOfC]; simp only [scope_comp]; decide +kernel))) (fun _ _ _ _ _ => (zg_name sc__law_paths.nd rfl (by first | exact Or.inl rfl | exact Or.inr rfl))) (fun _ _ _ _ _ => zts_nil) (fun _ _ _ _ _ => (ze_frz (zn_lc (own := [("_law_j", 4)]) rfl sc__law_paths.nd (zi_range1 (by rfl) T.z_range (za_cons (ze_var 2) za_nil)) (blkOk_by (by first | (dsimp only [bodyX, cxOf, envOfC]; decide +kernel) | (dsimp only [bodyX, cxOf, envOfC]; simp only [scope_comp]; decide +kernel))) (fun _ _ _ _ _ => (zg_name sc__law_paths.nd rfl (by first | exact Or.inl rfl | exact Or.inr rfl))) (fun _ _ _ _ _ => zts_nil) (fun _ _ _ _ _ => (ze_cb zc_min (b_min) T.z_min (za_cons (ze_frz (zn_lc (own := [("_law_k", 5)]) rfl sc__law_paths.nd (zi_range1 (by rfl) T.z_range (za_cons (ze_var 2) za_nil)) (blkOk_by (by first | (dsimp only [bodyX, cxOf, envOfC]; decide +kernel) | (dsimp only [bodyX, cxOf, envOfC]; simp only [scope_comp]; decide +kernel))) (fun _ _ _ _ _ => (zg_name sc__law_paths.nd rfl (by first | exact Or.inl rfl | exact Or.inr rfl))) (fun _ _ _ _ _ => zts_nil) (fun _ _ _ _ _ => (ze_cb zc_max2 (b_max) T.z_max (za_cons (ze_ix (ze_var 3) (ze_var 5)) (za_cons (ze_ix (ze_ix (ze_var 1) (ze_var 5)) (ze_var 4)) za_nil)))))) za_nil)))))))))))
theorem sc_is_stable : FnScope ["shape", "row"] ["shape"] (defScope (top 22)) := ⟨rfl, rfl, rfl, by decide +kernel, rfl, by decide +kernel, by decide +kernel⟩
def c_is_stable (s_own_size s_check_shape s_joined_shape : Sem2) : S → RS :=
  (seqC (drC (callM 2 s_check_shape (consA (vM 0) (consA (callM 1 s_own_size (consA (vM 0) nilA)) nilA))))
  (rtC (bM (callM 2 s_joined_shape (consA (vM 0) (consA (vM 0) nilA))) (frN (lcM (seqI (vM 0)) (bName 1) yesM (frN (cbM gList (consA (vM 1) nilA))) [1])) (eqG false))))
theorem v_is_stable {s_own_size s_check_shape s_joined_shape : Sem2}
    (V_own_size : FnV false P w K mg base 1 T.f_own_size T.fd_own_size ["value"] (spZ K 1 s_own_size))
    (V_check_shape : FnV false P w K mg base 4 T.f_check_shape T.fd_check_shape ["shape", "size"] (spZ K 2 s_check_shape))
    (V_joined_shape : FnV false P w K mg base 1 T.f_joined_shape T.fd_joined_shape ["one", "other"] (spZ K 2 s_joined_shape)) :
    FnV false P w K mg base 5 T.f_is_stable T.fd_is_stable ["shape"] (spZ K 1 (runZ 2 (c_is_stable s_own_size s_check_shape s_joined_shape))) :=
  fnv T.F_is_stable sc_is_stable fun cdv A outer s H E hr hg tk => by
  have hp := passes_of (X := bodyX P w K mg base ["shape", "row"] "is_stable" (top 22) T.f_is_stable cdv A outer s H E) rfl
  exact (zss_cons (zs_expr (ze_call V_check_shape (hr.mono (by decide)) gdF T.m_check_shape T.F_check_shape.kp T.b_check_shape tk (za_cons (ze_var 0) (za_cons (ze_call V_own_size (hr.mono (by decide)) gdF T.m_own_size T.F_own_size.kp T.b_own_size tk (za_cons (ze_var 0) za_nil)) za_nil))))
  (zss_one (zs_ret (ze_eq hr.units (ze_call V_joined_shape (hr.mono (by decide)) gdF T.m_joined_shape T.F_joined_shape.kp T.b_joined_shape tk (za_cons (ze_var 0) (za_cons (ze_var 0) za_nil))) (ze_frz (zn_lc (own := [("row", 1)]) rfl sc_is_stable.nd (zi_seq (ze_var 0)) (blkOk_by (by first | (dsimp only [bodyX, cxOf, envOfC]; decide +kernel) | (dsimp only [bodyX, cxOf, envOfC]; simp only [scope_comp]; decide +kernel))) (fun _ _ _ _ _ => (zg_name sc_is_stable.nd rfl (by first | exact Or.inl rfl | exact Or.inr rfl))) (fun _ _ _ _ _ => zts_nil) (fun _ _ _ _ _ => (ze_frz (zn_cty zcn_list (b_list) T.z_list (za_cons (ze_var 1) za_nil))))))))))
theorem sc__law_shapes_right : FnScope ["_law_box_here", "_law_size", "_law_one", "_law_other", "_law_first", "_law_second", "_law_kept", "_law_found", "_law_row", "_law_power", "_law_turn"] ["_law_box_here", "_law_size"] (defScope (top 32)) := ⟨rfl, rfl, rfl, by decide +kernel, rfl, by decide +kernel, by decide +kernel⟩
def c__law_shapes_right (s__law_drawn s__law_given s_multiply_shapes s__law_paths s_is_stable : Sem2) : S → RS :=
  (seqC (parC 2 3 (consA (callM 3 s__law_drawn (consA (vM 0) (consA (vM 1) (consA (frN (lstM (consA (cM (.int 0)) (consA (cM (.int 1)) (consA (cM (.int 2)) (consA (cM (.int 3)) nilA)))))) nilA)))) (consA (callM 3 s__law_drawn (consA (vM 0) (consA (vM 1) (consA (frN (lstM (consA (cM (.int 3)) (consA (cM (.int 2)) (consA (cM (.int 1)) (consA (cM (.int 0)) (consA (cM (.int 1)) nilA))))))) nilA)))) nilA)))
  (seqC (parC 4 5 (consA (callM 2 s__law_given (consA (vM 0) (consA (vM 2) nilA))) (consA (callM 2 s__law_given (consA (vM 0) (consA (vM 3) nilA))) nilA)))
  (seqC (parC 6 7 (consA (cbM gRepr (consA (frN (lstM (consA (vM 4) (consA (vM 5) nilA)))) nilA)) (consA (callM 2 s_multiply_shapes (consA (vM 4) (consA (vM 5) nilA))) nilA)))
  (seqC (ifC (fun s => asB ((bM (cbM gRepr (consA (vM 7) nilA)) (cbM gRepr (consA (callM 2 s__law_paths (consA (vM 2) (consA (vM 3) nilA))) nilA)) (eqG true)) s)) (rtC (cM (.bl false))) nxC)
  (seqC (forC (seqI (vM 7)) (bName 8)
  (appC (vM 8) (cM (.int 1))))
  (seqC (ifC (fun s => asB ((bM (frN (lcM (seqI (vM 7)) (bName 8) yesM (cbM gLen (consA (vM 8) nilA)) [8])) (frN (repN (frN (lstM (consA (bM (vM 1) (cM (.int 1)) (op2 addD)) nilA))) (vM 1))) (eqG true)) s)) (rtC (cM (.bl false))) nxC)
  (seqC (setC 9 (vM 2))
  (seqC (forC (rngI1 (consA (cM (.int 8)) nilA)) (bName 10)
  (seqC (ifC (fun s => asB ((bM (callM 1 s_is_stable (consA (callM 2 s__law_given (consA (vM 0) (consA (vM 9) nilA))) nilA)) (bM (callM 2 s__law_paths (consA (vM 9) (consA (vM 9) nilA))) (vM 9) (eqG false)) (eqG true)) s)) (rtC (cM (.bl false))) nxC)
  (setC 9 (callM 2 s__law_paths (consA (vM 9) (consA (vM 9) nilA))))))
  (rtC (bM (cbM gRepr (consA (frN (lstM (consA (vM 4) (consA (vM 5) nilA)))) nilA)) (vM 6) (eqG false)))))))))))
theorem v__law_shapes_right {s__law_drawn s__law_given s_multiply_shapes s__law_paths s_is_stable : Sem2}
    (V__law_drawn : FnV false P w K mg base 2 T.f__law_drawn T.fd__law_drawn ["_law_box_here", "_law_size", "_law_items"] (spZ K 3 s__law_drawn))
    (V__law_given : FnV false P w K mg base 2 T.f__law_given T.fd__law_given ["_law_box_here", "_law_matrix"] (spZ K 2 s__law_given))
    (V_multiply_shapes : FnV false P w K mg base 5 T.f_multiply_shapes T.fd_multiply_shapes ["one", "other"] (spZ K 2 s_multiply_shapes))
    (V__law_paths : FnV false P w K mg base 1 T.f__law_paths T.fd__law_paths ["_law_one", "_law_other"] (spZ K 2 s__law_paths))
    (V_is_stable : FnV false P w K mg base 5 T.f_is_stable T.fd_is_stable ["shape"] (spZ K 1 s_is_stable)) :
    FnV true P w K mg base 6 T.f__law_shapes_right T.fd__law_shapes_right ["_law_box_here", "_law_size"] (spZ K 2 (runZ 11 (c__law_shapes_right s__law_drawn s__law_given s_multiply_shapes s__law_paths s_is_stable))) :=
  fnv T.F__law_shapes_right sc__law_shapes_right fun cdv A outer s H E hr hg tk => by
  have hp := passes_of (X := bodyX P w K mg base ["_law_box_here", "_law_size", "_law_one", "_law_other", "_law_first", "_law_second", "_law_kept", "_law_found", "_law_row", "_law_power", "_law_turn"] "_law_shapes_right" (top 32) T.f__law_shapes_right cdv A outer s H E) rfl
  exact (zss_cons (zs_par (i := 2) (j := 3) rfl sc__law_shapes_right.nd rfl rfl (by decide) rfl rfl (za_cons (ze_call V__law_drawn (hr.mono (by decide)) gdF T.m__law_drawn T.F__law_drawn.kp T.b__law_drawn tk (za_cons (ze_var 0) (za_cons (ze_var 1) (za_cons (ze_frz (zn_lst (za_cons ze_int (za_cons ze_int (za_cons ze_int (za_cons ze_int za_nil)))))) za_nil)))) (za_cons (ze_call V__law_drawn (hr.mono (by decide)) gdF T.m__law_drawn T.F__law_drawn.kp T.b__law_drawn tk (za_cons (ze_var 0) (za_cons (ze_var 1) (za_cons (ze_frz (zn_lst (za_cons ze_int (za_cons ze_int (za_cons ze_int (za_cons ze_int (za_cons ze_int za_nil))))))) za_nil)))) za_nil)))
  (zss_cons (zs_par (i := 4) (j := 5) rfl sc__law_shapes_right.nd rfl rfl (by decide) rfl rfl (za_cons (ze_call V__law_given (hr.mono (by decide)) gdF T.m__law_given T.F__law_given.kp T.b__law_given tk (za_cons (ze_var 0) (za_cons (ze_var 2) za_nil))) (za_cons (ze_call V__law_given (hr.mono (by decide)) gdF T.m__law_given T.F__law_given.kp T.b__law_given tk (za_cons (ze_var 0) (za_cons (ze_var 3) za_nil))) za_nil)))
  (zss_cons (zs_par (i := 6) (j := 7) rfl sc__law_shapes_right.nd rfl rfl (by decide) rfl rfl (za_cons (ze_cb (zc_repr (hg rfl) (units66 hr)) (b_repr) T.z_repr (za_cons (ze_frz (zn_lst (za_cons (ze_var 4) (za_cons (ze_var 5) za_nil)))) za_nil)) (za_cons (ze_call V_multiply_shapes (hr.mono (by decide)) gdF T.m_multiply_shapes T.F_multiply_shapes.kp T.b_multiply_shapes tk (za_cons (ze_var 4) (za_cons (ze_var 5) za_nil))) za_nil)))
  (zss_cons (zs_if (zt_ne hr.units (ze_cb (zc_repr (hg rfl) (units66 hr)) (b_repr) T.z_repr (za_cons (ze_var 7) za_nil)) (ze_cb (zc_repr (hg rfl) (units66 hr)) (b_repr) T.z_repr (za_cons (ze_call V__law_paths (hr.mono (by decide)) gdF T.m__law_paths T.F__law_paths.kp T.b__law_paths tk (za_cons (ze_var 2) (za_cons (ze_var 3) za_nil))) za_nil))) (zss_one (zs_ret ze_bl)) zss_nil)
  (zss_cons (zs_for hp rfl (zi_seq (ze_var 7)) (zg_name sc__law_shapes_right.nd rfl (by first | exact Or.inl rfl | exact Or.inr rfl))
  (zss_one (zs_append (ze_var 8) ze_int)))
  (zss_cons (zs_if (zt_ne hr.units (ze_frz (zn_lc (own := [("_law_row", 8)]) rfl sc__law_shapes_right.nd (zi_seq (ze_var 7)) (blkOk_by (by first | (dsimp only [bodyX, cxOf, envOfC]; decide +kernel) | (dsimp only [bodyX, cxOf, envOfC]; simp only [scope_comp]; decide +kernel))) (fun _ _ _ _ _ => (zg_name sc__law_shapes_right.nd rfl (by first | exact Or.inl rfl | exact Or.inr rfl))) (fun _ _ _ _ _ => zts_nil) (fun _ _ _ _ _ => (ze_cb zc_len (b_len) T.z_len (za_cons (ze_var 8) za_nil))))) (ze_frz (zn_rep (ze_frz (zn_lst (za_cons (ze_bin zo_add (ze_var 1) ze_int) za_nil))) (ze_var 1)))) (zss_one (zs_ret ze_bl)) zss_nil)
  (zss_cons (zs_set (i := 9) sc__law_shapes_right.nd rfl (by first | exact Or.inl rfl | exact Or.inr rfl) (ze_var 2))
  (zss_cons (zs_for hp rfl (zi_range1 (by rfl) T.z_range (za_cons ze_int za_nil)) (zg_name sc__law_shapes_right.nd rfl (by first | exact Or.inl rfl | exact Or.inr rfl))
  (zss_cons (zs_if (zt_ne hr.units (ze_call V_is_stable (hr.mono (by decide)) gdF T.m_is_stable T.F_is_stable.kp T.b_is_stable tk (za_cons (ze_call V__law_given (hr.mono (by decide)) gdF T.m__law_given T.F__law_given.kp T.b__law_given tk (za_cons (ze_var 0) (za_cons (ze_var 9) za_nil))) za_nil)) (ze_eq hr.units (ze_call V__law_paths (hr.mono (by decide)) gdF T.m__law_paths T.F__law_paths.kp T.b__law_paths tk (za_cons (ze_var 9) (za_cons (ze_var 9) za_nil))) (ze_var 9))) (zss_one (zs_ret ze_bl)) zss_nil)
  (zss_one (zs_set (i := 9) sc__law_shapes_right.nd rfl (by first | exact Or.inl rfl | exact Or.inr rfl) (ze_call V__law_paths (hr.mono (by decide)) gdF T.m__law_paths T.F__law_paths.kp T.b__law_paths tk (za_cons (ze_var 9) (za_cons (ze_var 9) za_nil)))))))
  (zss_one (zs_ret (ze_eq hr.units (ze_cb (zc_repr (hg rfl) (units66 hr)) (b_repr) T.z_repr (za_cons (ze_frz (zn_lst (za_cons (ze_var 4) (za_cons (ze_var 5) za_nil)))) za_nil)) (ze_var 6))))))))))))
theorem sc_law : FnScope ["_law_script", "_law_k", "_law_box_here", "_law_size"] ["_law_script"] (defScope (top 33)) := ⟨rfl, rfl, rfl, by decide +kernel, rfl, by decide +kernel, by decide +kernel⟩
def c_law (s__law_cell s__law_box s__law_costs_right s__law_shapes_right : Sem2) : S → RS :=
  (seqC (forC (rngI1 (consA (cbM (g2 max2D) (consA (cM (.int 3)) (consA (cbM (g2 min2D) (consA (cbM gLen (consA (vM 0) nilA)) (consA (cM (.int 12)) nilA))) nilA))) nilA)) (bName 1)
  (seqC (setC 2 (callM 1 s__law_box (consA (callM 2 s__law_cell (consA (vM 0) (consA (vM 1) nilA))) nilA)))
  (forC (seqI (frN (lstM (consA (cM (.int 0)) (consA (cM (.int 1)) (consA (cM (.int 2)) (consA (cM (.int 3)) (consA (cM (.int 4)) (consA (cM (.int 5)) (consA (cM (.int 6)) (consA (cM (.int 9)) nilA))))))))))) (bName 3)
  (ifC (orM (notM (trM (callM 2 s__law_costs_right (consA (vM 2) (consA (vM 3) nilA))))) (notM (trM (callM 2 s__law_shapes_right (consA (vM 2) (consA (vM 3) nilA)))))) (rtC (cM (.bl false))) nxC))))
  (rtC (cM (.bl true))))
theorem v_law {s__law_cell s__law_box s__law_costs_right s__law_shapes_right : Sem2}
    (V__law_cell : FnV false P w K mg base 1 T.f__law_cell T.fd__law_cell ["_law_script", "_law_k"] (spZ K 2 s__law_cell))
    (V__law_box : FnV false P w K mg base 1 T.f__law_box T.fd__law_box ["_law_cell_here"] (spZ K 1 s__law_box))
    (V__law_costs_right : FnV true P w K mg base 4 T.f__law_costs_right T.fd__law_costs_right ["_law_box_here", "_law_size"] (spZ K 2 s__law_costs_right))
    (V__law_shapes_right : FnV true P w K mg base 6 T.f__law_shapes_right T.fd__law_shapes_right ["_law_box_here", "_law_size"] (spZ K 2 s__law_shapes_right)) :
    FnV true P w K mg base 7 T.f_law T.fd_law ["_law_script"] (spZ K 1 (runZ 4 (c_law s__law_cell s__law_box s__law_costs_right s__law_shapes_right))) :=
  fnv T.F_law sc_law fun cdv A outer s H E hr hg tk => by
  have hp := passes_of (X := bodyX P w K mg base ["_law_script", "_law_k", "_law_box_here", "_law_size"] "law" (top 33) T.f_law cdv A outer s H E) rfl
  exact (zss_cons (zs_for hp rfl (zi_range1 (by rfl) T.z_range (za_cons (ze_cb zc_max2 (b_max) T.z_max (za_cons ze_int (za_cons (ze_cb zc_min2 (b_min) T.z_min (za_cons (ze_cb zc_len (b_len) T.z_len (za_cons (ze_var 0) za_nil)) (za_cons ze_int za_nil))) za_nil))) za_nil)) (zg_name sc_law.nd rfl (by first | exact Or.inl rfl | exact Or.inr rfl))
  (zss_cons (zs_set (i := 2) sc_law.nd rfl (by first | exact Or.inl rfl | exact Or.inr rfl) (ze_call V__law_box (hr.mono (by decide)) gdF T.m__law_box T.F__law_box.kp T.b__law_box tk (za_cons (ze_call V__law_cell (hr.mono (by decide)) gdF T.m__law_cell T.F__law_cell.kp T.b__law_cell tk (za_cons (ze_var 0) (za_cons (ze_var 1) za_nil))) za_nil)))
  (zss_one (zs_for hp rfl (zi_seq (ze_frz (zn_lst (za_cons ze_int (za_cons ze_int (za_cons ze_int (za_cons ze_int (za_cons ze_int (za_cons ze_int (za_cons ze_int (za_cons ze_int za_nil))))))))))) (zg_name sc_law.nd rfl (by first | exact Or.inl rfl | exact Or.inr rfl))
  (zss_one (zs_if (zt_bo (zw_or (zt_not (zt_tru (ze_call V__law_costs_right (hr.mono (by decide)) (fun _ => hg rfl) T.m__law_costs_right T.F__law_costs_right.kp T.b__law_costs_right tk (za_cons (ze_var 2) (za_cons (ze_var 3) za_nil))))) (zw_or1 (zt_not (zt_tru (ze_call V__law_shapes_right (hr.mono (by decide)) (fun _ => hg rfl) T.m__law_shapes_right T.F__law_shapes_right.kp T.b__law_shapes_right tk (za_cons (ze_var 2) (za_cons (ze_var 3) za_nil)))))))) (zss_one (zs_ret ze_bl)) zss_nil))))))
  (zss_one (zs_ret ze_bl)))
end
def e__law_box : Sem2 := runZ 1 (c__law_box)
def e__law_cell : Sem2 := runZ 2 (c__law_cell)
def e_least : Sem2 := runZ 3 (c_least)
def e_added : Sem2 := runZ 2 (c_added)
def e_product_of : Sem2 := runZ 8 (c_product_of e_added e_least)
def e_is_square : Sem2 := runZ 3 (c_is_square)
def e_is_integer : Sem2 := runZ 1 (c_is_integer)
def e_is_matrix : Sem2 := runZ 4 (c_is_matrix e_is_square e_is_integer)
def e_own_size : Sem2 := runZ 1 (c_own_size)
def e_multiply_costs : Sem2 := runZ 3 (c_multiply_costs e_own_size e_is_matrix e_product_of)
def e_shape_of : Sem2 := runZ 3 (c_shape_of e_own_size e_is_matrix)
def e__law_take : Sem2 := runZ 4 (c__law_take)
def e__law_drawn : Sem2 := runZ 7 (c__law_drawn e__law_take)
def e__law_given : Sem2 := runZ 5 (c__law_given e__law_take)
def e__law_sums : Sem2 := runZ 9 (c__law_sums)
def e__law_costs_right : Sem2 := runZ 12 (c__law_costs_right e__law_drawn e__law_given e_multiply_costs e__law_sums e_shape_of)
def e_is_between : Sem2 := runZ 3 (c_is_between e_is_integer)
def e_is_shape : Sem2 := runZ 4 (c_is_shape e_is_square e_is_between)
def e_check_shape : Sem2 := runZ 2 (c_check_shape e_is_shape)
def e_joined_shape : Sem2 := runZ 8 (c_joined_shape)
def e_multiply_shapes : Sem2 := runZ 2 (c_multiply_shapes e_own_size e_check_shape e_joined_shape)
def e__law_paths : Sem2 := runZ 6 (c__law_paths)
def e_is_stable : Sem2 := runZ 2 (c_is_stable e_own_size e_check_shape e_joined_shape)
def e__law_shapes_right : Sem2 := runZ 11 (c__law_shapes_right e__law_drawn e__law_given e_multiply_shapes e__law_paths e_is_stable)
def e_law : Sem2 := runZ 4 (c_law e__law_cell e__law_box e__law_costs_right e__law_shapes_right)
end K35
namespace K35
open PySem PySem.Spec PyProof.Rows L2 Z
theorem cut_len (m : Nat) (d : D) (st : List Cell) (h : st.length = m) : cutF m (.ok (.fr d) st) = .ok (.fr d) st := by subst h; exact cut_fr' d st
theorem runZ_fr {n : Nat} {c : S → RS} {ws : List W} {st : List Cell} {d : D} {s : S} (h : c (startS n ws st) = .rt (.fr d) s) (hs : s.st.length = st.length) : runZ n c ws st = .ok (.fr d) s.st := by
  unfold runZ; rw [h]; exact cut_len _ d s.st hs
theorem runZ_rt {n : Nat} {c : S → RS} {ws : List W} {st : List Cell} {d : D} {s : S} (h : c (startS n ws st) = .rt (.fr d) s) (hs : s.st = st) : runZ n c ws st = .ok (.fr d) st := by
  rw [runZ_fr h (by rw [hs]), hs]
/-- a result among new cells -/
theorem runZ_new {n : Nat} {c : S → RS} {ws : List W} {st : List Cell} {k : Nat} {s : S} (h : c (startS n ws st) = .rt (.loc k) s) (hk : st.length ≤ k) : runZ n c ws st = .ok (.loc k) s.st := by
  unfold runZ; rw [h]
  show cutF st.length (.ok (.loc k) s.st) = _
  unfold cutF fitW
  simp [Nat.not_lt.mpr hk]
def iO : Option Int → D | none => .non | some i => .int i
def addO : Option Int → Option Int → Option Int | some a, some b => some (a + b) | _, _ => none
theorem added_ok (a b : Option Int) (st : List Cell) : e_added [.fr (iO a), .fr (iO b)] st = .ok (.fr (iO (addO a b))) st := by
  refine runZ_rt (s := ⟨[some (.fr (iO a)), some (.fr (iO b))], st⟩) ?_ rfl
  cases a <;> cases b <;> simp [c_added, iO, addO, startS_eq, rtC, setC, drC, ifC, parC, asgC, put, then_ok', toS_ok, bM, vM_eq, cM, op2, consA, nilA, cbM, g1, g2, view_fr, iop_int, asB_bl, mN, mNt, isN_non, isN_int, isN_lst, ifM, Z.orM, Z.andM, Z.notM, andV, orV, notV, trM, truW_fr, truD, ixM, ixW_fr, ixD, callM, callW, gLen, lenW_fr, lenD, frN, frLst, loN, loLst, lstM, tupM, frzA, fzM, frz1_fr, isM, gIs, tyW_fr, tyD, isTy, addD_int, eqG_int, List.map, List.length, List.cons_append, List.nil_append, List.append_nil, List.getElem?_cons_zero, List.getElem?_cons_succ, List.set_cons_zero, List.set_cons_succ, List.replicate]
/-! the box -/
def boxC (a b c : Int) : Cell := .lst [.fr (.int a), .fr (.int b), .fr (.int c)]
def BX (k : Nat) (st0 st : List Cell) : Prop := ∃ a b c : Int, 0 ≤ a ∧ 0 ≤ b ∧ st = st0.set k (boxC a b c)
theorem BX.len {k : Nat} {st0 st : List Cell} (h : BX k st0 st) : st.length = st0.length := by obtain ⟨a, b, c, _, _, rfl⟩ := h; simp
theorem BX.refl {k : Nat} {st : List Cell} {a b c : Int} (ha : 0 ≤ a) (hb : 0 ≤ b) (h : st[k]? = some (boxC a b c)) : BX k st st := ⟨a, b, c, ha, hb, by
  refine List.ext_getElem? fun i => ?_
  by_cases hi : i = k
  · subst hi; rw [List.getElem?_set_self (List.getElem?_eq_some_iff.mp h).1, h]
  · rw [List.getElem?_set_ne (Ne.symm hi)]⟩
theorem atI0 {α : Type} (x y z : α) : atI [x, y, z] 0 = some x := rfl
theorem atI1 {α : Type} (x y z : α) : atI [x, y, z] 1 = some y := rfl
theorem atI2 {α : Type} (x y z : α) : atI [x, y, z] 2 = some z := rfl
theorem ixW_loc {env : List (Option W)} {st : List Cell} {k : Nat} {ws : List W} {i : Int} (h : st[k]? = some (.lst ws)) : ixW ⟨env, st⟩ (.loc k) (.int i) = atI ws i := by
  unfold ixW; dsimp only; rw [h]
theorem stoW_loc {env : List (Option W)} {st : List Cell} {k : Nat} {ws : List W} {d : W} {i : Int} {n : Nat} (h : st[k]? = some (.lst ws)) (hn : ixN ws.length i = some n) : stoW d (.loc k) (.fr (.int i)) ⟨env, st⟩ = .nx ⟨env, st.set k (.lst (ws.set n d))⟩ := by
  unfold stoW stoGo view; dsimp only; rw [h]; dsimp only; rw [hn]
theorem take_ok {k : Nat} {st0 st : List Cell} {size : Int} (hk : k < st0.length) (h : BX k st0 st) (h1 : 1 ≤ size) (h2 : size < 1073741824) :
    ∃ i st', e__law_take [.loc k, .fr (.int size)] st = .ok (.fr (.int i)) st' ∧ BX k st0 st' ∧ 0 ≤ i ∧ i < size := by
  obtain ⟨a, b, c, ha, hb, rfl⟩ := h
  have hg : ∀ x : Cell, (st0.set k x)[k]? = some x := fun x => List.getElem?_set_self hk
  have hg2 : ∀ (env : List (Option W)) (x y z : Int) (i : Int), ixW ⟨env, st0.set k (boxC x y z)⟩ (.loc k) (.int i) = atI [.fr (.int x), .fr (.int y), .fr (.int z)] i := fun env x y z i => ixW_loc (hg _)
  have hs : ∀ (env : List (Option W)) (x y z : Int) (d : W) (i : Int) (n : Nat), ixN [W.fr (.int x), W.fr (.int y), W.fr (.int z)].length i = some n → stoW d (.loc k) (.fr (.int i)) ⟨env, st0.set k (boxC x y z)⟩ = .nx ⟨env, st0.set k (.lst ([W.fr (.int x), .fr (.int y), .fr (.int z)].set n d))⟩ := fun env x y z d i n e => by
    unfold boxC
    rw [stoW_loc (hg _) e, List.set_set]
  have s0 : ∀ (env : List (Option W)) (x y z v : Int), stoW (.fr (.int v)) (.loc k) (.fr (.int 0)) ⟨env, st0.set k (boxC x y z)⟩ = .nx ⟨env, st0.set k (boxC v y z)⟩ := fun env x y z v => hs env x y z _ 0 0 rfl
  have s1 : ∀ (env : List (Option W)) (x y z v : Int), stoW (.fr (.int v)) (.loc k) (.fr (.int 1)) ⟨env, st0.set k (boxC x y z)⟩ = .nx ⟨env, st0.set k (boxC x v z)⟩ := fun env x y z v => hs env x y z _ 1 1 rfl
  have s2 : ∀ (env : List (Option W)) (x y z v : Int), stoW (.fr (.int v)) (.loc k) (.fr (.int 2)) ⟨env, st0.set k (boxC x y z)⟩ = .nx ⟨env, st0.set k (boxC x y v)⟩ := fun env x y z v => hs env x y z _ 2 2 rfl
  by_cases h0 : 0 < a
  · refine ⟨a % size, st0.set k (boxC (a / size) b c), ?_, ⟨_, _, _, Int.ediv_nonneg ha (by omega), hb, rfl⟩, Int.emod_nonneg _ (by omega), Int.emod_lt_of_pos _ (by omega)⟩
    refine runZ_fr (s := ⟨[some (.loc k), some (.fr (.int size)), some (.fr (.int (a % size))), none], st0.set k (boxC (a / size) b c)⟩) ?_ (by simp)
    have d1 : divC a size = true := by simp [divC]; omega
    simp [c__law_take, startS_eq, rtC, setC, drC, ifC, parC, asgC, put, then_ok', toS_ok, bM, vM_eq, cM, op2, consA, nilA, cbM, g1, g2, view_fr, iop_int, asB_bl, mN, mNt, isN_non, isN_int, isN_lst, ifM, Z.orM, Z.andM, Z.notM, andV, orV, notV, trM, truW_fr, truD, ixM, ixW_fr, ixD, callM, callW, gLen, lenW_fr, lenD, frN, frLst, loN, loLst, lstM, tupM, frzA, fzM, frz1_fr, isM, gIs, tyW_fr, tyD, isTy, addD_int, eqG_int, List.map, List.length, List.cons_append, List.nil_append, List.append_nil, List.getElem?_cons_zero, List.getElem?_cons_succ, List.set_cons_zero, List.set_cons_succ, List.replicate, hg2, atI0, atI1, atI2, h0, seqC, stoC, show (0 : Int) < size by omega, d1, s0]
  · obtain ⟨M, hM⟩ : ∃ M : Int, M = (b * 48271 + 69621 * (c + 1) + 89) % 2147483647 := ⟨_, rfl⟩
    have hM0 : 0 ≤ M := by rw [hM]; exact Int.emod_nonneg _ (by decide)
    have hM1 : M < 2147483647 := by rw [hM]; exact Int.emod_lt_of_pos _ (by decide)
    obtain ⟨B, hB⟩ : ∃ B : Int, B = (M ^ 3 + 6007 * (c + 1)) % 2147483647 := ⟨_, rfl⟩
    have hB0 : 0 ≤ B := by rw [hB]; exact Int.emod_nonneg _ (by decide)
    have m1 : mulC b 48271 = true := by simp [mulC]
    have m2 : mulC 69621 (c + 1) = true := by simp [mulC]
    have m3 : mulC 6007 (c + 1) = true := by simp [mulC]
    have p1 : powC M 3 = true := by simp [powC]; omega
    have d1 : divC B 16 = true := by simp [divC]
    refine ⟨B / 16 % size, st0.set k (boxC a B (c + 1)), ?_, ⟨_, _, _, ha, hB0, rfl⟩, Int.emod_nonneg _ (by omega), Int.emod_lt_of_pos _ (by omega)⟩
    refine runZ_fr (s := ⟨[some (.loc k), some (.fr (.int size)), none, some (.fr (.int M))], st0.set k (boxC a B (c + 1))⟩) ?_ (by simp)
    have hB' : (M ^ 3 + 6007 * (c + 1)) % 2147483647 = B := hB.symm
    have hM' : (b * 48271 + 69621 * (c + 1) + 89) % 2147483647 = M := hM.symm
    simp [c__law_take, startS_eq, rtC, setC, drC, ifC, parC, asgC, put, then_ok', toS_ok, bM, vM_eq, cM, op2, consA, nilA, cbM, g1, g2, view_fr, iop_int, asB_bl, mN, mNt, isN_non, isN_int, isN_lst, ifM, Z.orM, Z.andM, Z.notM, andV, orV, notV, trM, truW_fr, truD, ixM, ixW_fr, ixD, callM, callW, gLen, lenW_fr, lenD, frN, frLst, loN, loLst, lstM, tupM, frzA, fzM, frz1_fr, isM, gIs, tyW_fr, tyD, isTy, addD_int, eqG_int, List.map, List.length, List.cons_append, List.nil_append, List.append_nil, List.getElem?_cons_zero, List.getElem?_cons_succ, List.set_cons_zero, List.set_cons_succ, List.replicate, hg2, atI0, atI1, atI2, h0, seqC, stoC, show (0 : Int) < size by omega, d1, s1, s2, nxC, m1, m2, m3, hM', p1, hB']
end K35
namespace K35
open PySem PySem.Spec PyProof.Rows L2 Z
theorem BX.trans {k : Nat} {a b c : List Cell} (h : BX k a b) (h' : BX k b c) : BX k a c := by
  obtain ⟨x, y, z, h1, h2, rfl⟩ := h
  obtain ⟨x', y', z', h3, h4, rfl⟩ := h'
  exact ⟨x', y', z', h3, h4, by rw [List.set_set]⟩
theorem BX.app {k : Nat} {a b : List Cell} {x : Cell} (hk : k < a.length) (h : BX k (a ++ [x]) b) : ∃ b', b = b' ++ [x] ∧ BX k a b' := by
  obtain ⟨u, v, w, h1, h2, rfl⟩ := h
  exact ⟨a.set k (boxC u v w), by rw [List.set_append_left _ _ hk], u, v, w, h1, h2, rfl⟩
theorem BX.put {k : Nat} {a b : List Cell} {x : Cell} (hk : k < a.length) (h : BX k a b) : BX k (a ++ [x]) (b ++ [x]) := by
  obtain ⟨u, v, w, h1, h2, rfl⟩ := h
  exact ⟨u, v, w, h1, h2, by rw [List.set_append_left _ _ hk]⟩
theorem atI_mem {α : Type} {xs : List α} {i : Int} (h0 : 0 ≤ i) (h1 : i < xs.length) : ∃ x ∈ xs, atI xs i = some x := by
  obtain ⟨n, rfl⟩ := Int.eq_ofNat_of_zero_le h0
  have hn : n < xs.length := by omega
  refine ⟨xs[n], List.getElem_mem hn, ?_⟩
  unfold atI ixN
  rw [if_pos (by omega), if_pos (by omega)]
  show xs[(n : Int).toNat]? = _
  rw [Int.toNat_natCast, List.getElem?_eq_getElem hn]
theorem BX.closed {k : Nat} {a b : List Cell} (h : BX k a b) (hc : Closed a) : Closed b := by
  obtain ⟨x, y, z, _, _, rfl⟩ := h
  exact hc.set rfl
/-! matrices drawn -/
abbrev lstM' (rows : List (List D)) : D := .lst (rows.map D.lst)
theorem small24 : (sizeLine : Nat) = 2 ^ 24 := rfl
abbrev drE (k n : Nat) (items : List D) (common : D) (m : Nat) (oi : Option W) : List (Option W) := [some (.loc k), some (.fr (.int n)), some (.fr (.lst items)), some (.fr common), some (.loc m), oi, none]
theorem drawn_ok {k : Nat} {st0 st : List Cell} {items : List D} {n : Nat} (hcl : Closed st0) (hk : k < st0.length) (h : BX k st0 st) (h1 : items ≠ []) (h2 : items.length < 1000) (hn : n < 1000) :
    ∃ rows st', e__law_drawn [.loc k, .fr (.int n), .fr (.lst items)] st = .ok (.fr (lstM' rows)) st' ∧ BX k st0 st' ∧ rows.length = n ∧ ∀ r ∈ rows, r.length = n ∧ ∀ d ∈ r, d ∈ items := by
  have hL : (1 : Int) ≤ items.length := by
    have := List.length_pos_iff.mpr h1
    omega
  obtain ⟨i1, st1, t1, b1, p1, q1⟩ := take_ok (size := items.length) hk h hL (by omega)
  obtain ⟨common, hc, ec⟩ := atI_mem p1 (by omega : i1 < items.length)
  have hst : st1.length = st0.length := b1.len
  obtain ⟨ME, hME⟩ : ∃ m : S → R W, m = ixM (frN (lstM (consA (vM 3) (consA (ixM (vM 2) (callM 2 e__law_take (consA (vM 0) (consA (cbM gLen (consA (vM 2) nilA)) nilA)))) nilA)))) (callM 2 e__law_take (consA (vM 0) (consA (cM (.int 2)) nilA))) := ⟨_, rfl⟩
  -- one row
  have row : ∀ (st : List Cell) (found : Cell) (oi : Option W), BX k st0 st →
      ∃ (r : List D) (st' : List Cell), lcM (rngI1 (consA (vM 1) nilA)) (bName 6) yesM ME [6] ⟨drE k n items common st0.length oi, st ++ [found]⟩ = .ok (r.map W.fr) ⟨drE k n items common st0.length oi, st' ++ [found]⟩ ∧ BX k st0 st' ∧ r.length = n ∧ ∀ d ∈ r, d ∈ items := by
    intro st found oi hb
    have hi : rngI1 (consA (vM 1) nilA) ⟨drE k n items common st0.length oi, st ++ [found]⟩ = .ok (.fx ((List.range n).map fun i => W.fr (.int (i : Nat)))) ⟨drE k n items common st0.length oi, st ++ [found]⟩ := by
      rw [← rngW_eq]
      exact rngI1_ok (by simp [startS_eq, rtC, setC, drC, ifC, parC, asgC, put, then_ok', toS_ok, bM, vM_eq, cM, op2, consA, nilA, cbM, g1, g2, view_fr, iop_int, asB_bl, mN, mNt, isN_non, isN_int, isN_lst, ifM, Z.orM, Z.andM, Z.notM, andV, orV, notV, trM, truW_fr, truD, ixM, ixW_fr, ixD, callM, callW, gLen, lenW_fr, lenD, frN, frLst, loN, loLst, lstM, tupM, frzA, fzM, frz1_fr, isM, gIs, tyW_fr, tyD, isTy, addD_int, eqG_int, List.map, List.length, List.cons_append, List.nil_append, List.append_nil, List.getElem?_cons_zero, List.getElem?_cons_succ, List.set_cons_zero, List.set_cons_succ, List.replicate, drE]) (by omega)
    have hs : ∀ i ∈ List.range n, ∀ st', (∃ s', st' = s' ++ [found] ∧ BX k st0 s') → ∃ s1 y s3, bName 6 (W.fr (.int (i : Nat))) ⟨wipeW (drE k n items common st0.length oi) [6], st'⟩ = some s1 ∧ ME s1 = .ok (W.fr y) s3 ∧ (∃ s', s3.st = s' ++ [found] ∧ BX k st0 s') ∧ y ∈ items := by
      rintro i _ _ ⟨st2, rfl, hb2⟩
      obtain ⟨i3, st3, t3, b3, p3, q3⟩ := take_ok (size := items.length) (by simp; omega) (hb2.put (x := found) hk) hL (by omega)
      obtain ⟨st4, rfl, b4⟩ := b3.app hk
      obtain ⟨d3, hd3, ed3⟩ := atI_mem p3 (by omega : i3 < items.length)
      obtain ⟨i5, st5, t5, b5, p5, q5⟩ := take_ok (size := 2) (by simp; omega) (b4.put (x := found) hk) (by decide) (by decide)
      obtain ⟨st6, rfl, b6⟩ := b5.app hk
      obtain ⟨d5, hd5, ed5⟩ := atI_mem (xs := [common, d3]) p5 (by simpa using q5)
      have hm : d5 ∈ items := by
        rcases List.mem_cons.mp hd5 with e | e
        · rw [e]; exact hc
        · rw [List.mem_singleton.mp e]; exact hd3
      refine ⟨_, d5, ⟨(drE k n items common st0.length oi).set 6 (some (.fr (.int (i : Nat)))), st6 ++ [found]⟩, rfl, ?_, ⟨st6, rfl, b6⟩, hm⟩
      simp [hME, startS_eq, rtC, setC, drC, ifC, parC, asgC, put, then_ok', toS_ok, bM, vM_eq, cM, op2, consA, nilA, cbM, g1, g2, view_fr, iop_int, asB_bl, mN, mNt, isN_non, isN_int, isN_lst, ifM, Z.orM, Z.andM, Z.notM, andV, orV, notV, trM, truW_fr, truD, ixM, ixW_fr, ixD, callM, callW, gLen, lenW_fr, lenD, frN, frLst, loN, loLst, lstM, tupM, frzA, fzM, frz1_fr, isM, gIs, tyW_fr, tyD, isTy, addD_int, eqG_int, List.map, List.length, List.cons_append, List.nil_append, List.append_nil, List.getElem?_cons_zero, List.getElem?_cons_succ, List.set_cons_zero, List.set_cons_succ, List.replicate, drE, bName, wipeW, t3, t5, ed3, small24, frzs, frzL, ed5]
    obtain ⟨ys, st', q, hI, hp⟩ := lcM_invG (fun i => W.fr (.int (i : Nat))) W.fr (fun s => ∃ s', s = s' ++ [found] ∧ BX k st0 s') (fun _ d => d ∈ items) hi (by rw [List.length_range, small24]; omega) ⟨st, rfl, hb⟩ hs
    obtain ⟨st'', rfl, hb'⟩ := hI
    refine ⟨ys, st'', q, hb', ?_, fun d hd => ?_⟩
    · have := Paired.length hp; simpa using this.symm
    · obtain ⟨x, hx⟩ := Paired.right hp d hd
      exact hx
  -- the rows
  have loop := forF_inv (ws := rngW n) (bd := bName 5) (c := appC (vM 4) (frN (lcM (rngI1 (consA (vM 1) nilA)) (bName 6) yesM ME [6])))
    (s := ⟨drE k n items common st0.length none, st1 ++ [.lst []]⟩)
    (fun i s => ∃ (rows : List (List D)) (st' : List Cell) (oi : Option W), s = ⟨drE k n items common st0.length oi, st' ++ [.lst (rows.map fun r => W.fr (.lst r))]⟩ ∧ BX k st0 st' ∧ rows.length = i ∧ ∀ r ∈ rows, r.length = n ∧ ∀ d ∈ r, d ∈ items)
    ⟨[], st1, none, rfl, b1, rfl, by simp⟩ (by
      rintro i w _ hw ⟨rows, st2, oi, rfl, hb, hl, hr⟩
      have hi : i < n := by
        have := (List.getElem?_eq_some_iff.mp hw).1
        rwa [rngW_length] at this
      obtain ⟨r, st3, q, hb3, hrl, hrm⟩ := row st2 (.lst (rows.map fun r => W.fr (.lst r))) (some w) hb
      refine ⟨⟨drE k n items common st0.length (some w), st2 ++ [.lst (rows.map fun r => W.fr (.lst r))]⟩, ⟨drE k n items common st0.length (some w), st3 ++ [.lst ((rows ++ [r]).map fun r => W.fr (.lst r))]⟩, rfl, .inl ?_, rows ++ [r], st3, some w, rfl, hb3, by simp [hl], ?_⟩
      · have e1 : vM 4 ⟨drE k n items common st0.length (some w), st2 ++ [.lst (rows.map fun r => W.fr (.lst r))]⟩ = .ok (.loc st0.length) ⟨drE k n items common st0.length (some w), st2 ++ [.lst (rows.map fun r => W.fr (.lst r))]⟩ := rfl
        have g1 := cells_app (x := Cell.lst (rows.map fun r => W.fr (.lst r))) hb.len
        have g2 := cells_app (x := Cell.lst (rows.map fun r => W.fr (.lst r))) hb3.len
        unfold appC
        rw [e1, toS_ok]
        unfold appW
        dsimp only
        rw [g1]
        dsimp only
        unfold frN
        rw [q, then_ok']
        unfold frLst
        rw [frzs_fr, then_ok', toS_ok]
        unfold appGo
        dsimp only
        rw [g2]
        dsimp only
        rw [if_pos (by rw [List.length_map, small24]; omega), cells_set hb3.len]
        simp
      · intro r' hr'
        rcases List.mem_append.mp hr' with z | z
        · exact hr r' z
        · rw [List.mem_singleton.mp z]; exact ⟨hrl, hrm⟩)
  obtain ⟨s', q, rows, st', oi, rfl, hb, hl, hr⟩ := loop
  refine ⟨rows, st', ?_, hb, by rw [hl, rngW_length], hr⟩
  have e1 : setC 3 (ixM (vM 2) (callM 2 e__law_take (consA (vM 0) (consA (cbM gLen (consA (vM 2) nilA)) nilA)))) (startS 7 [.loc k, .fr (.int n), .fr (.lst items)] st) = .nx ⟨[some (.loc k), some (.fr (.int n)), some (.fr (.lst items)), some (.fr common), none, none, none], st1⟩ := by
    simp [startS_eq, rtC, setC, drC, ifC, parC, asgC, put, then_ok', toS_ok, bM, vM_eq, cM, op2, consA, nilA, cbM, g1, g2, view_fr, iop_int, asB_bl, mN, mNt, isN_non, isN_int, isN_lst, ifM, Z.orM, Z.andM, Z.notM, andV, orV, notV, trM, truW_fr, truD, ixM, ixW_fr, ixD, callM, callW, gLen, lenW_fr, lenD, frN, frLst, loN, loLst, lstM, tupM, frzA, fzM, frz1_fr, isM, gIs, tyW_fr, tyD, isTy, addD_int, eqG_int, List.map, List.length, List.cons_append, List.nil_append, List.append_nil, List.getElem?_cons_zero, List.getElem?_cons_succ, List.set_cons_zero, List.set_cons_succ, List.replicate, t1, ec]
  have e2 : setC 4 (loN (lstM nilA)) ⟨[some (.loc k), some (.fr (.int n)), some (.fr (.lst items)), some (.fr common), none, none, none], st1⟩ = .nx ⟨drE k n items common st0.length none, st1 ++ [.lst []]⟩ := by
    simp [startS_eq, rtC, setC, drC, ifC, parC, asgC, put, then_ok', toS_ok, bM, vM_eq, cM, op2, consA, nilA, cbM, g1, g2, view_fr, iop_int, asB_bl, mN, mNt, isN_non, isN_int, isN_lst, ifM, Z.orM, Z.andM, Z.notM, andV, orV, notV, trM, truW_fr, truD, ixM, ixW_fr, ixD, callM, callW, gLen, lenW_fr, lenD, frN, frLst, loN, loLst, lstM, tupM, frzA, fzM, frz1_fr, isM, gIs, tyW_fr, tyD, isTy, addD_int, eqG_int, List.map, List.length, List.cons_append, List.nil_append, List.append_nil, List.getElem?_cons_zero, List.getElem?_cons_succ, List.set_cons_zero, List.set_cons_succ, List.replicate, drE, b1.len]
  have e3 : rngI1 (consA (vM 1) nilA) ⟨drE k n items common st0.length none, st1 ++ [.lst []]⟩ = .ok (.fx (rngW n)) ⟨drE k n items common st0.length none, st1 ++ [.lst []]⟩ := rngI1_ok (by simp [startS_eq, rtC, setC, drC, ifC, parC, asgC, put, then_ok', toS_ok, bM, vM_eq, cM, op2, consA, nilA, cbM, g1, g2, view_fr, iop_int, asB_bl, mN, mNt, isN_non, isN_int, isN_lst, ifM, Z.orM, Z.andM, Z.notM, andV, orV, notV, trM, truW_fr, truD, ixM, ixW_fr, ixD, callM, callW, gLen, lenW_fr, lenD, frN, frLst, loN, loLst, lstM, tupM, frzA, fzM, frz1_fr, isM, gIs, tyW_fr, tyD, isTy, addD_int, eqG_int, List.map, List.length, List.cons_append, List.nil_append, List.append_nil, List.getElem?_cons_zero, List.getElem?_cons_succ, List.set_cons_zero, List.set_cons_succ, List.replicate, drE]) (by omega)
  have e4 : rtC (fzM (vM 4)) ⟨drE k n items common st0.length oi, st' ++ [.lst (rows.map fun r => W.fr (.lst r))]⟩ = .rt (.fr (lstM' rows)) ⟨drE k n items common st0.length oi, st' ++ [.frz (lstM' rows)]⟩ := by
    have g := cells_app (x := Cell.lst ((rows.map D.lst).map W.fr)) hb.len
    have e : (rows.map fun r => W.fr (.lst r)) = (rows.map D.lst).map W.fr := by rw [List.map_map]; rfl
    rw [e]
    have v : vM 4 ⟨drE k n items common st0.length oi, st' ++ [.lst ((rows.map D.lst).map W.fr)]⟩ = .ok (.loc st0.length) ⟨drE k n items common st0.length oi, st' ++ [.lst ((rows.map D.lst).map W.fr)]⟩ := rfl
    unfold rtC fzM
    rw [v, then_ok', frz1_lst g, then_ok', toS_ok, cells_set hb.len]
  unfold e__law_drawn runZ c__law_drawn
  rw [← hME, seqC_nx e1, seqC_nx e2, seqC_nx (s' := ⟨drE k n items common st0.length oi, st' ++ [.lst (rows.map fun r => W.fr (.lst r))]⟩) (by unfold forC; rw [e3, toS_ok]; exact q), e4]
  show cutF st.length (.ok (.fr (lstM' rows)) (st' ++ [.frz (lstM' rows)])) = _
  exact cut_app (hb.closed hcl) (by rw [hb.len, h.len])
end K35
namespace K35
open PySem PySem.Spec PyProof.Rows L2 Z
/-! matrices of lists and tuples -/
def seqD (t : Bool) (ds : List D) : D := if t then .tup ds else .lst ds
theorem items_seq (t : Bool) (ds : List D) : itemsD (seqD t ds) = some ds := by cases t <;> rfl
theorem itemsX_seq (t : Bool) (ds : List D) : itemsX (seqD t ds) = some ds := by cases t <;> rfl
theorem len_seq (t : Bool) (ds : List D) : lenD (seqD t ds) = some (ds.length : Int) := by cases t <;> rfl
theorem ix_seq (t : Bool) (ds : List D) (i : Int) : ixD (seqD t ds) (.int i) = atI ds i := by cases t <;> rfl
theorem ty_seq (t : Bool) (ds : List D) : ∃ y, tyD (seqD t ds) = some y ∧ ([Ty.lst, Ty.tup].any fun u => isTy y u) = true := by cases t <;> exact ⟨_, rfl, rfl⟩
def matD (t1 t2 : Bool) (rows : List (List D)) : D := seqD t2 (rows.map (seqD t1))
theorem given_ok {k : Nat} {st0 st : List Cell} {rows : List (List D)} (hk : k < st0.length) (h : BX k st0 st) (hl : rows.length < 1000) :
    ∃ t1 t2 st', e__law_given [.loc k, .fr (lstM' rows)] st = .ok (.fr (matD t1 t2 rows)) st' ∧ BX k st0 st' := by
  obtain ⟨i1, st1, t1, b1, p1, q1⟩ := take_ok (size := 3) hk h (by decide) (by decide)
  have hst : st1.length = st0.length := b1.len
  let E : Option W → List (Option W) := fun o => [some (.loc k), some (.fr (lstM' rows)), some (.fr (.int i1)), o, none]
  have e1 : setC 2 (callM 2 e__law_take (consA (vM 0) (consA (cM (.int 3)) nilA))) (startS 5 [.loc k, .fr (lstM' rows)] st) = .nx ⟨E none, st1⟩ := by simp [startS_eq, rtC, setC, drC, ifC, parC, asgC, put, then_ok', toS_ok, bM, vM_eq, cM, op2, consA, nilA, cbM, g1, g2, view_fr, iop_int, asB_bl, mN, mNt, isN_non, isN_int, isN_lst, ifM, Z.orM, Z.andM, Z.notM, andV, orV, notV, trM, truW_fr, truD, ixM, ixW_fr, ixD, callM, callW, gLen, lenW_fr, lenD, frN, frLst, loN, loLst, lstM, tupM, frzA, fzM, frz1_fr, isM, gIs, tyW_fr, tyD, isTy, addD_int, eqG_int, List.map, List.length, List.cons_append, List.nil_append, List.append_nil, List.getElem?_cons_zero, List.getElem?_cons_succ, List.set_cons_zero, List.set_cons_succ, List.replicate, t1, E]
  have e2 : setC 3 (frN (lcM (seqI (vM 1)) (bName 4) yesM (ifM (fun s => asB ((bM (vM 2) (cM (.int 0)) (op2 gtD)) s)) (cbM gTuple (consA (vM 4) nilA)) (frN (cbM gList (consA (vM 4) nilA)))) [4])) ⟨E none, st1⟩ = .nx ⟨E (some (.fr (.lst (rows.map (seqD (decide (0 < i1))))))), st1⟩ := by
    have q := lcM_mapG (mi := seqI (vM 1)) (bd := bName 4) (me := ifM (fun s => asB ((bM (vM 2) (cM (.int 0)) (op2 gtD)) s)) (cbM gTuple (consA (vM 4) nilA)) (frN (cbM gList (consA (vM 4) nilA)))) (vs := [4]) (s := ⟨E none, st1⟩) (s0 := ⟨E none, st1⟩) (xs := rows) (fun r => W.fr (.lst r)) (fun r => W.fr (seqD (decide (0 < i1)) r))
      (by rw [seqI_fr (m := vM 1) (s := ⟨E none, st1⟩) (s0 := ⟨E none, st1⟩) (d := lstM' rows) (ds := rows.map D.lst) rfl rfl, List.map_map]; rfl) (by rw [small24]; omega) (fun r hr => by
        refine ⟨⟨[some (.loc k), some (.fr (lstM' rows)), some (.fr (.int i1)), none, some (.fr (.lst r))], st1⟩, ⟨[some (.loc k), some (.fr (lstM' rows)), some (.fr (.int i1)), none, some (.fr (.lst r))], st1⟩, rfl, ?_, rfl⟩
        have f1 := frzs_fr r
        have f2 := frs_map r
        by_cases hi : 0 < i1
        · simp [startS_eq, rtC, setC, drC, ifC, parC, asgC, put, then_ok', toS_ok, bM, vM_eq, cM, op2, consA, nilA, cbM, g1, g2, view_fr, iop_int, asB_bl, mN, mNt, isN_non, isN_int, isN_lst, ifM, Z.orM, Z.andM, Z.notM, andV, orV, notV, trM, truW_fr, truD, ixM, ixW_fr, ixD, callM, callW, gLen, lenW_fr, lenD, frN, frLst, loN, loLst, lstM, tupM, frzA, fzM, frz1_fr, isM, gIs, tyW_fr, tyD, isTy, addD_int, eqG_int, List.map, List.length, List.cons_append, List.nil_append, List.append_nil, List.getElem?_cons_zero, List.getElem?_cons_succ, List.set_cons_zero, List.set_cons_succ, List.replicate, hi, gTuple, lstV_fr, lstF, f2, seqD]
        · simp [startS_eq, rtC, setC, drC, ifC, parC, asgC, put, then_ok', toS_ok, bM, vM_eq, cM, op2, consA, nilA, cbM, g1, g2, view_fr, iop_int, asB_bl, mN, mNt, isN_non, isN_int, isN_lst, ifM, Z.orM, Z.andM, Z.notM, andV, orV, notV, trM, truW_fr, truD, ixM, ixW_fr, ixD, callM, callW, gLen, lenW_fr, lenD, frN, frLst, loN, loLst, lstM, tupM, frzA, fzM, frz1_fr, isM, gIs, tyW_fr, tyD, isTy, addD_int, eqG_int, List.map, List.length, List.cons_append, List.nil_append, List.append_nil, List.getElem?_cons_zero, List.getElem?_cons_succ, List.set_cons_zero, List.set_cons_succ, List.replicate, hi, gList, lstV_fr, lstF, f1, seqD])
    exact setC_ok (frN_eq (ds := rows.map (seqD (decide (0 < i1)))) (q.trans (by rw [List.map_map]; rfl)))
  have f2 := frs_map (rows.map (seqD (decide (0 < i1))))
  refine ⟨decide (0 < i1), decide (i1 = 2), st1, ?_, b1⟩
  refine runZ_fr (s := ⟨E (some (.fr (.lst (rows.map (seqD (decide (0 < i1))))))), st1⟩) ?_ (by rw [hst, h.len])
  unfold c__law_given
  rw [seqC_nx e1, seqC_nx e2]
  by_cases h2 : i1 = 2
  · subst h2
    have e : eqB2 (.int 2) (.int 2) = some true := rfl
    simp [startS_eq, rtC, setC, drC, ifC, parC, asgC, put, then_ok', toS_ok, bM, vM_eq, cM, op2, consA, nilA, cbM, g1, g2, view_fr, iop_int, asB_bl, mN, mNt, isN_non, isN_int, isN_lst, ifM, Z.orM, Z.andM, Z.notM, andV, orV, notV, trM, truW_fr, truD, ixM, ixW_fr, ixD, callM, callW, gLen, lenW_fr, lenD, frN, frLst, loN, loLst, lstM, tupM, frzA, fzM, frz1_fr, isM, gIs, tyW_fr, tyD, isTy, addD_int, eqG_int, List.map, List.length, List.cons_append, List.nil_append, List.append_nil, List.getElem?_cons_zero, List.getElem?_cons_succ, List.set_cons_zero, List.set_cons_succ, List.replicate, eqG, deep_fr, e, E, gTuple, lstV_fr, lstF, matD, seqD] at f2 ⊢
    rw [f2]
    rfl
  · have e : eqB2 (.int i1) (.int 2) = some false := by
      show some (PyData.eqv (.int i1) (.int 2)) = _
      have : PyData.eqv (.int i1) (.int 2) = false := by simp [PyData.eqv, h2]
      rw [this]
    simp [startS_eq, rtC, setC, drC, ifC, parC, asgC, put, then_ok', toS_ok, bM, vM_eq, cM, op2, consA, nilA, cbM, g1, g2, view_fr, iop_int, asB_bl, mN, mNt, isN_non, isN_int, isN_lst, ifM, Z.orM, Z.andM, Z.notM, andV, orV, notV, trM, truW_fr, truD, ixM, ixW_fr, ixD, callM, callW, gLen, lenW_fr, lenD, frN, frLst, loN, loLst, lstM, tupM, frzA, fzM, frz1_fr, isM, gIs, tyW_fr, tyD, isTy, addD_int, eqG_int, List.map, List.length, List.cons_append, List.nil_append, List.append_nil, List.getElem?_cons_zero, List.getElem?_cons_succ, List.set_cons_zero, List.set_cons_succ, List.replicate, eqG, deep_fr, e, E, matD, seqD, h2]
end K35
namespace K35
open PySem PySem.Spec PyProof.Rows L2 Z
/-! what a matrix must be -/
abbrev rowsD (rows : List (List (Option Int))) : List (List D) := rows.map (List.map iO)
theorem cb_all {ms : S → R W} {s s' : S} {n : Nat} (h : ms s = .ok (.fr (.lst (List.replicate n (.bl true)))) s') : cbM (g1 allD) (consA ms nilA) s = .ok (.fr (.bl true)) s' := by
  unfold cbM consA nilA g1
  rw [h, then_ok', then_ok', then_ok']
  dsimp only
  rw [view_fr]
  dsimp only
  rw [allD_true]
theorem is_square_ok (t1 t2 : Bool) {rows : List (List D)} {n : Nat} (hn : rows.length = n) (hr : ∀ r ∈ rows, r.length = n) (hb : n < 1000) (st : List Cell) :
    e_is_square [.fr (matD t1 t2 rows), .fr (.int n)] st = .ok (.fr (.bl true)) st := by
  let E : List (Option W) := [some (.fr (matD t1 t2 rows)), some (.fr (.int n)), none]
  refine runZ_rt (s := ⟨E, st⟩) ?_ rfl
  have e1 : ifC (Z.orM (Z.notM (trM (isM [.lst, .tup] (vM 0)))) (fun s => asB ((bM (cbM gLen (consA (vM 0) nilA)) (vM 1) (eqG true)) s))) (rtC (cM (.bl false))) nxC (startS 3 [.fr (matD t1 t2 rows), .fr (.int n)] st) = .nx ⟨E, st⟩ := by
    cases t2 <;> simp [startS_eq, rtC, setC, drC, ifC, parC, asgC, put, then_ok', toS_ok, bM, vM_eq, cM, op2, consA, nilA, cbM, g1, g2, view_fr, iop_int, asB_bl, mN, mNt, isN_non, isN_int, isN_lst, ifM, Z.orM, Z.andM, Z.notM, andV, orV, notV, trM, truW_fr, truD, ixM, ixW_fr, ixD, callM, callW, gLen, lenW_fr, lenD, frN, frLst, loN, loLst, lstM, tupM, frzA, fzM, frz1_fr, isM, gIs, tyW_fr, tyD, isTy, addD_int, eqG_int, List.map, List.length, List.cons_append, List.nil_append, List.append_nil, List.getElem?_cons_zero, List.getElem?_cons_succ, List.set_cons_zero, List.set_cons_succ, List.replicate, matD, seqD, hn, nxC, E]
  have e2 := lcM_true (mi := seqI (vM 0)) (bd := bName 2) (me := andV (isM [.lst, .tup] (vM 2)) (bM (cbM gLen (consA (vM 2) nilA)) (vM 1) (eqG false))) (vs := [2]) (s := ⟨E, st⟩) (s0 := ⟨E, st⟩) (xs := rows) (fun r => W.fr (seqD t1 r))
    (by rw [seqI_fr (m := vM 0) (s := ⟨E, st⟩) (s0 := ⟨E, st⟩) (d := matD t1 t2 rows) (ds := rows.map (seqD t1)) rfl (items_seq _ _), List.map_map]; rfl) (by rw [small24]; omega)
    (fun r h => ⟨⟨[some (.fr (matD t1 t2 rows)), some (.fr (.int n)), some (.fr (seqD t1 r))], st⟩, ⟨[some (.fr (matD t1 t2 rows)), some (.fr (.int n)), some (.fr (seqD t1 r))], st⟩, rfl, by
      have := hr r h
      cases t1 <;> simp [startS_eq, rtC, setC, drC, ifC, parC, asgC, put, then_ok', toS_ok, bM, vM_eq, cM, op2, consA, nilA, cbM, g1, g2, view_fr, iop_int, asB_bl, mN, mNt, isN_non, isN_int, isN_lst, ifM, Z.orM, Z.andM, Z.notM, andV, orV, notV, trM, truW_fr, truD, ixM, ixW_fr, ixD, callM, callW, gLen, lenW_fr, lenD, frN, frLst, loN, loLst, lstM, tupM, frzA, fzM, frz1_fr, isM, gIs, tyW_fr, tyD, isTy, addD_int, eqG_int, List.map, List.length, List.cons_append, List.nil_append, List.append_nil, List.getElem?_cons_zero, List.getElem?_cons_succ, List.set_cons_zero, List.set_cons_succ, List.replicate, seqD, this], rfl⟩)
  unfold c_is_square
  rw [seqC_nx e1]
  exact rtC_ok (cb_all (frN_eq e2))
theorem is_integer_ok (i : Int) (st : List Cell) : e_is_integer [.fr (.int i)] st = .ok (.fr (.bl true)) st := by
  refine runZ_rt (s := ⟨[some (.fr (.int i))], st⟩) ?_ rfl
  simp [c_is_integer, startS_eq, rtC, setC, drC, ifC, parC, asgC, put, then_ok', toS_ok, bM, vM_eq, cM, op2, consA, nilA, cbM, g1, g2, view_fr, iop_int, asB_bl, mN, mNt, isN_non, isN_int, isN_lst, ifM, Z.orM, Z.andM, Z.notM, andV, orV, notV, trM, truW_fr, truD, ixM, ixW_fr, ixD, callM, callW, gLen, lenW_fr, lenD, frN, frLst, loN, loLst, lstM, tupM, frzA, fzM, frz1_fr, isM, gIs, tyW_fr, tyD, isTy, addD_int, eqG_int, List.map, List.length, List.cons_append, List.nil_append, List.append_nil, List.getElem?_cons_zero, List.getElem?_cons_succ, List.set_cons_zero, List.set_cons_succ, List.replicate]
theorem own_size_ok (t1 t2 : Bool) (rows : List (List D)) (st : List Cell) : e_own_size [.fr (matD t1 t2 rows)] st = .ok (.fr (.int rows.length)) st := by
  refine runZ_rt (s := ⟨[some (.fr (matD t1 t2 rows))], st⟩) ?_ rfl
  cases t2 <;> simp [c_own_size, startS_eq, rtC, setC, drC, ifC, parC, asgC, put, then_ok', toS_ok, bM, vM_eq, cM, op2, consA, nilA, cbM, g1, g2, view_fr, iop_int, asB_bl, mN, mNt, isN_non, isN_int, isN_lst, ifM, Z.orM, Z.andM, Z.notM, andV, orV, notV, trM, truW_fr, truD, ixM, ixW_fr, ixD, callM, callW, gLen, lenW_fr, lenD, frN, frLst, loN, loLst, lstM, tupM, frzA, fzM, frz1_fr, isM, gIs, tyW_fr, tyD, isTy, addD_int, eqG_int, List.map, List.length, List.cons_append, List.nil_append, List.append_nil, List.getElem?_cons_zero, List.getElem?_cons_succ, List.set_cons_zero, List.set_cons_succ, List.replicate, matD, seqD]
theorem is_matrix_ok (t1 t2 : Bool) {rows : List (List (Option Int))} {n : Nat} (hn : rows.length = n) (hr : ∀ r ∈ rows, r.length = n ∧ ∀ i ∈ r, ∀ v, i = some v → 0 ≤ v) (hb : n < 1000) (st : List Cell) :
    e_is_matrix [.fr (matD t1 t2 (rowsD rows)), .fr (.int n)] st = .ok (.fr (.bl true)) st := by
  have sq := is_square_ok t1 t2 (rows := rowsD rows) (n := n) (by simpa using hn) (fun r h => by
    obtain ⟨r', h', rfl⟩ := List.mem_map.mp h
    rw [List.length_map]; exact (hr r' h').1) hb
  let E : List (Option W) := [some (.fr (matD t1 t2 (rowsD rows))), some (.fr (.int n)), none, none]
  refine runZ_rt (s := ⟨E, st⟩) ?_ rfl
  have e1 : ifC (Z.notM (trM (callM 2 e_is_square (consA (vM 0) (consA (vM 1) nilA))))) (rtC (cM (.bl false))) nxC (startS 4 [.fr (matD t1 t2 (rowsD rows)), .fr (.int n)] st) = .nx ⟨E, st⟩ := by
    simp [startS_eq, rtC, setC, drC, ifC, parC, asgC, put, then_ok', toS_ok, bM, vM_eq, cM, op2, consA, nilA, cbM, g1, g2, view_fr, iop_int, asB_bl, mN, mNt, isN_non, isN_int, isN_lst, ifM, Z.orM, Z.andM, Z.notM, andV, orV, notV, trM, truW_fr, truD, ixM, ixW_fr, ixD, callM, callW, gLen, lenW_fr, lenD, frN, frLst, loN, loLst, lstM, tupM, frzA, fzM, frz1_fr, isM, gIs, tyW_fr, tyD, isTy, addD_int, eqG_int, List.map, List.length, List.cons_append, List.nil_append, List.append_nil, List.getElem?_cons_zero, List.getElem?_cons_succ, List.set_cons_zero, List.set_cons_succ, List.replicate, sq, nxC, E]
  obtain ⟨m, e2⟩ := lc2M_true (mi := seqI (vM 0)) (bd := bName 2) (mi1 := seqI (vM 2)) (bd1 := bName 3) (me := orV (mN false (vM 3)) (andV (callM 1 e_is_integer (consA (vM 3) nilA)) (bM (vM 3) (cM (.int 0)) (op2 geD)))) (vs := [2, 3]) (vs1 := [3]) (s := ⟨E, st⟩) (s0 := ⟨E, st⟩)
    (xs := rows) (fun r => W.fr (seqD t1 (r.map iO))) (fun r => r) (fun _ i => W.fr (iO i)) n
    (by rw [seqI_fr (m := vM 0) (s := ⟨E, st⟩) (s0 := ⟨E, st⟩) (d := matD t1 t2 (rowsD rows)) (ds := (rowsD rows).map (seqD t1)) rfl (items_seq _ _), List.map_map, List.map_map]; rfl)
    (by rw [hn, small24]; have := Nat.mul_le_mul (Nat.le_of_lt hb) (Nat.le_of_lt hb); omega)
    (fun r h => ⟨Nat.le_of_eq (hr r h).1, ⟨[some (.fr (matD t1 t2 (rowsD rows))), some (.fr (.int n)), some (.fr (seqD t1 (r.map iO))), none], st⟩, ⟨[some (.fr (matD t1 t2 (rowsD rows))), some (.fr (.int n)), some (.fr (seqD t1 (r.map iO))), none], st⟩, rfl,
      by rw [seqI_fr (m := vM 2) (s := ⟨[some (.fr (matD t1 t2 (rowsD rows))), some (.fr (.int n)), some (.fr (seqD t1 (r.map iO))), none], st⟩) (d := seqD t1 (r.map iO)) (ds := r.map iO) rfl (items_seq _ _), List.map_map]; rfl, rfl,
      fun i hi => ⟨⟨[some (.fr (matD t1 t2 (rowsD rows))), some (.fr (.int n)), some (.fr (seqD t1 (r.map iO))), some (.fr (iO i))], st⟩, ⟨[some (.fr (matD t1 t2 (rowsD rows))), some (.fr (.int n)), some (.fr (seqD t1 (r.map iO))), some (.fr (iO i))], st⟩, rfl, by
        have hv := (hr r h).2 i hi
        have ii := is_integer_ok
        cases i with
        | none => simp [startS_eq, rtC, setC, drC, ifC, parC, asgC, put, then_ok', toS_ok, bM, vM_eq, cM, op2, consA, nilA, cbM, g1, g2, view_fr, iop_int, asB_bl, mN, mNt, isN_non, isN_int, isN_lst, ifM, Z.orM, Z.andM, Z.notM, andV, orV, notV, trM, truW_fr, truD, ixM, ixW_fr, ixD, callM, callW, gLen, lenW_fr, lenD, frN, frLst, loN, loLst, lstM, tupM, frzA, fzM, frz1_fr, isM, gIs, tyW_fr, tyD, isTy, addD_int, eqG_int, List.map, List.length, List.cons_append, List.nil_append, List.append_nil, List.getElem?_cons_zero, List.getElem?_cons_succ, List.set_cons_zero, List.set_cons_succ, List.replicate, iO]
        | some v => simp [startS_eq, rtC, setC, drC, ifC, parC, asgC, put, then_ok', toS_ok, bM, vM_eq, cM, op2, consA, nilA, cbM, g1, g2, view_fr, iop_int, asB_bl, mN, mNt, isN_non, isN_int, isN_lst, ifM, Z.orM, Z.andM, Z.notM, andV, orV, notV, trM, truW_fr, truD, ixM, ixW_fr, ixD, callM, callW, gLen, lenW_fr, lenD, frN, frLst, loN, loLst, lstM, tupM, frzA, fzM, frz1_fr, isM, gIs, tyW_fr, tyD, isTy, addD_int, eqG_int, List.map, List.length, List.cons_append, List.nil_append, List.append_nil, List.getElem?_cons_zero, List.getElem?_cons_succ, List.set_cons_zero, List.set_cons_succ, List.replicate, iO, ii, hv v rfl], rfl⟩⟩)
  unfold c_is_matrix
  rw [seqC_nx e1]
  exact rtC_ok (cb_all (frN_eq e2))
end K35
namespace K35
open PySem PySem.Spec PyProof.Rows L2 Z
def leastO (xs : List (Option Int)) : Option Int := if xs.filterMap id = [] then none else some (minL (xs.filterMap id))
theorem lst_int (ns : List Int) : (ns.map fun v => W.fr (.int v)) = (ns.map D.int).map W.fr := by rw [List.map_map]; rfl
theorem least_ok (xs : List (Option Int)) (h : xs.length < 1000) (st : List Cell) : e_least [.fr (.lst (xs.map iO))] st = .ok (.fr (iO (leastO xs))) st := by
  let E : Option W → List (Option W) := fun o => [some (.fr (.lst (xs.map iO))), o, none]
  have e1 := lcM_pureG (mi := seqI (vM 0)) (bd := bName 2) (mt := mNt true (vM 2)) (me := vM 2) (vs := [2]) (s := ⟨E none, st⟩) (s0 := ⟨E none, st⟩) (xs := xs) (fun o => W.fr (iO o)) (fun o => o.map fun v => W.fr (.int v))
    (by rw [seqI_fr (m := vM 0) (s := ⟨E none, st⟩) (s0 := ⟨E none, st⟩) (d := .lst (xs.map iO)) (ds := xs.map iO) rfl rfl, List.map_map]; rfl) (by rw [small24]; omega)
    (fun o _ => ⟨⟨[some (.fr (.lst (xs.map iO))), none, some (.fr (iO o))], st⟩, rfl, by
      cases o with
      | none => exact .inl ⟨⟨[some (.fr (.lst (xs.map iO))), none, some (.fr (iO none))], st⟩, by simp [startS_eq, rtC, setC, drC, ifC, parC, asgC, put, then_ok', toS_ok, bM, vM_eq, cM, op2, consA, nilA, cbM, g1, g2, view_fr, iop_int, asB_bl, mN, mNt, isN_non, isN_int, isN_lst, ifM, Z.orM, Z.andM, Z.notM, andV, orV, notV, trM, truW_fr, truD, ixM, ixW_fr, ixD, callM, callW, gLen, lenW_fr, lenD, frN, frLst, loN, loLst, lstM, tupM, frzA, fzM, frz1_fr, isM, gIs, tyW_fr, tyD, isTy, addD_int, eqG_int, List.map, List.length, List.cons_append, List.nil_append, List.append_nil, List.getElem?_cons_zero, List.getElem?_cons_succ, List.set_cons_zero, List.set_cons_succ, List.replicate, iO], rfl, rfl⟩
      | some v => exact .inr ⟨⟨[some (.fr (.lst (xs.map iO))), none, some (.fr (iO (some v)))], st⟩, W.fr (.int v), ⟨[some (.fr (.lst (xs.map iO))), none, some (.fr (iO (some v)))], st⟩, by simp [startS_eq, rtC, setC, drC, ifC, parC, asgC, put, then_ok', toS_ok, bM, vM_eq, cM, op2, consA, nilA, cbM, g1, g2, view_fr, iop_int, asB_bl, mN, mNt, isN_non, isN_int, isN_lst, ifM, Z.orM, Z.andM, Z.notM, andV, orV, notV, trM, truW_fr, truD, ixM, ixW_fr, ixD, callM, callW, gLen, lenW_fr, lenD, frN, frLst, loN, loLst, lstM, tupM, frzA, fzM, frz1_fr, isM, gIs, tyW_fr, tyD, isTy, addD_int, eqG_int, List.map, List.length, List.cons_append, List.nil_append, List.append_nil, List.getElem?_cons_zero, List.getElem?_cons_succ, List.set_cons_zero, List.set_cons_succ, List.replicate, iO], by simp [startS_eq, rtC, setC, drC, ifC, parC, asgC, put, then_ok', toS_ok, bM, vM_eq, cM, op2, consA, nilA, cbM, g1, g2, view_fr, iop_int, asB_bl, mN, mNt, isN_non, isN_int, isN_lst, ifM, Z.orM, Z.andM, Z.notM, andV, orV, notV, trM, truW_fr, truD, ixM, ixW_fr, ixD, callM, callW, gLen, lenW_fr, lenD, frN, frLst, loN, loLst, lstM, tupM, frzA, fzM, frz1_fr, isM, gIs, tyW_fr, tyD, isTy, addD_int, eqG_int, List.map, List.length, List.cons_append, List.nil_append, List.append_nil, List.getElem?_cons_zero, List.getElem?_cons_succ, List.set_cons_zero, List.set_cons_succ, List.replicate, iO], rfl, rfl⟩⟩)
  have e2 : xs.filterMap (fun o => o.map fun v => W.fr (D.int v)) = ((xs.filterMap id).map D.int).map W.fr := by
    rw [List.map_filterMap, List.map_filterMap]
    congr 1
    funext o
    cases o <;> rfl
  refine runZ_rt (s := ⟨E (some (.fr (.lst ((xs.filterMap id).map D.int)))), st⟩) ?_ rfl
  unfold c_least
  rw [show startS 3 [W.fr (.lst (xs.map iO))] st = ⟨E none, st⟩ from rfl]
  rw [seqC_nx (setC_ok (frN_eq (ds := (xs.filterMap id).map D.int) (e1.trans (by rw [e2]))))]
  show rtC _ ⟨E (some (.fr (.lst ((xs.filterMap id).map D.int)))), st⟩ = _
  refine rtC_ok ?_
  have hm := allI_map (xs.filterMap id)
  by_cases hz : xs.filterMap id = []
  · simp [startS_eq, rtC, setC, drC, ifC, parC, asgC, put, then_ok', toS_ok, bM, vM_eq, cM, op2, consA, nilA, cbM, g1, g2, view_fr, iop_int, asB_bl, mN, mNt, isN_non, isN_int, isN_lst, ifM, Z.orM, Z.andM, Z.notM, andV, orV, notV, trM, truW_fr, truD, ixM, ixW_fr, ixD, callM, callW, gLen, lenW_fr, lenD, frN, frLst, loN, loLst, lstM, tupM, frzA, fzM, frz1_fr, isM, gIs, tyW_fr, tyD, isTy, addD_int, eqG_int, List.map, List.length, List.cons_append, List.nil_append, List.append_nil, List.getElem?_cons_zero, List.getElem?_cons_succ, List.set_cons_zero, List.set_cons_succ, List.replicate, E, leastO, hz, iO]
  · have hz2 : ((xs.filterMap id).map D.int).isEmpty = false := by
      cases hq : xs.filterMap id with
      | nil => exact absurd hq hz
      | cons a b => rfl
    simp only [startS_eq, rtC, setC, drC, ifC, parC, asgC, put, then_ok', toS_ok, bM, vM_eq, cM, op2, consA, nilA, cbM, g1, g2, view_fr, iop_int, asB_bl, mN, mNt, isN_non, isN_int, isN_lst, ifM, Z.orM, Z.andM, Z.notM, andV, orV, notV, trM, truW_fr, truD, ixM, ixW_fr, ixD, callM, callW, gLen, lenW_fr, lenD, frN, frLst, loN, loLst, lstM, tupM, frzA, fzM, frz1_fr, isM, gIs, tyW_fr, tyD, isTy, addD_int, eqG_int, List.map, List.length, List.cons_append, List.nil_append, List.append_nil, List.getElem?_cons_zero, List.getElem?_cons_succ, List.set_cons_zero, List.set_cons_succ, List.replicate, E, leastO, hz, iO, hz2, minD, lstI, hm, if_false, Bool.not_false, if_true]
theorem atI_nat {α : Type} {xs : List α} {j : Nat} (h : j < xs.length) : atI xs (j : Int) = some xs[j] := by
  unfold atI ixN
  rw [if_pos (by omega), if_pos (by omega)]
  show xs[((j : Nat) : Int).toNat]? = _
  rw [Int.toNat_natCast, List.getElem?_eq_getElem h]
theorem atI_row {r : List (Option Int)} {j : Nat} (h : j < r.length) : atI (r.map iO) (j : Int) = some (iO (r.getD j none)) := by
  rw [atI_nat (by rw [List.length_map]; exact h), List.getElem_map, List.getD_eq_getElem?_getD, List.getElem?_eq_getElem h]
  rfl
def colO (other : List (List (Option Int))) (j : Nat) : List (Option Int) := other.map fun r => r.getD j none
def colsD (other : List (List (Option Int))) (n : Nat) : List D := (List.range n).map fun j => .lst ((colO other j).map iO)
theorem cols_ok {d1 : D} {t1 t2 : Bool} {other : List (List (Option Int))} {n : Nat} (hn : other.length = n) (hr : ∀ r ∈ other, r.length = n) (hb : n < 1000) (st : List Cell) :
    setC 2 (frN (lcM (rngI1 (consA (cbM gLen (consA (vM 1) nilA)) nilA)) (bName 3) yesM (frN (lcM (seqI (vM 1)) (bName 4) yesM (ixM (vM 4) (vM 3)) [4])) [3])) (startS 8 [.fr d1, .fr (matD t1 t2 (rowsD other))] st)
      = .nx ⟨[some (.fr d1), some (.fr (matD t1 t2 (rowsD other))), some (.fr (.lst (colsD other n))), none, none, none, none, none], st⟩ := by
  let M := matD t1 t2 (rowsD other)
  let E : List (Option W) := [some (.fr d1), some (.fr M), none, none, none, none, none, none]
  have hi : rngI1 (consA (cbM gLen (consA (vM 1) nilA)) nilA) ⟨E, st⟩ = .ok (.fx ((List.range n).map fun i => W.fr (.int (i : Nat)))) ⟨E, st⟩ := by
    rw [← rngW_eq]
    refine rngI1_ok ?_ (by omega)
    cases t2 <;> simp [startS_eq, rtC, setC, drC, ifC, parC, asgC, put, then_ok', toS_ok, bM, vM_eq, cM, op2, consA, nilA, cbM, g1, g2, view_fr, iop_int, asB_bl, mN, mNt, isN_non, isN_int, isN_lst, ifM, Z.orM, Z.andM, Z.notM, andV, orV, notV, trM, truW_fr, truD, ixM, ixW_fr, ixD, callM, callW, gLen, lenW_fr, lenD, frN, frLst, loN, loLst, lstM, tupM, frzA, fzM, frz1_fr, isM, gIs, tyW_fr, tyD, isTy, addD_int, eqG_int, List.map, List.length, List.cons_append, List.nil_append, List.append_nil, List.getElem?_cons_zero, List.getElem?_cons_succ, List.set_cons_zero, List.set_cons_succ, List.replicate, E, M, matD, seqD, hn]
  have e := lcM_mapG (mi := rngI1 (consA (cbM gLen (consA (vM 1) nilA)) nilA)) (bd := bName 3) (me := frN (lcM (seqI (vM 1)) (bName 4) yesM (ixM (vM 4) (vM 3)) [4])) (vs := [3]) (s := ⟨E, st⟩) (s0 := ⟨E, st⟩) (xs := List.range n) (fun i => W.fr (.int (i : Nat))) (fun j => W.fr (.lst ((colO other j).map iO))) hi (by rw [List.length_range, small24]; omega)
    (fun j hj => by
      have hj : j < n := List.mem_range.mp hj
      let E3 : List (Option W) := [some (.fr d1), some (.fr M), none, some (.fr (.int (j : Nat))), none, none, none, none]
      refine ⟨⟨E3, st⟩, ⟨E3, st⟩, rfl, ?_, rfl⟩
      have e := lcM_mapG (mi := seqI (vM 1)) (bd := bName 4) (me := ixM (vM 4) (vM 3)) (vs := [4]) (s := ⟨E3, st⟩) (s0 := ⟨E3, st⟩) (xs := other) (fun r => W.fr (seqD t1 (r.map iO))) (fun r => W.fr (iO (r.getD j none)))
        (by rw [seqI_fr (m := vM 1) (s := ⟨E3, st⟩) (s0 := ⟨E3, st⟩) (d := M) (ds := (rowsD other).map (seqD t1)) rfl (items_seq _ _), List.map_map, List.map_map]; rfl) (by rw [small24]; omega)
        (fun r h => ⟨⟨E3.set 4 (some (.fr (seqD t1 (r.map iO)))), st⟩, ⟨E3.set 4 (some (.fr (seqD t1 (r.map iO)))), st⟩, rfl, by
          have := atI_row (r := r) (j := j) (by rw [hr r h]; exact hj)
          cases t1 <;> simp [startS_eq, rtC, setC, drC, ifC, parC, asgC, put, then_ok', toS_ok, bM, vM_eq, cM, op2, consA, nilA, cbM, g1, g2, view_fr, iop_int, asB_bl, mN, mNt, isN_non, isN_int, isN_lst, ifM, Z.orM, Z.andM, Z.notM, andV, orV, notV, trM, truW_fr, truD, ixM, ixW_fr, ixD, callM, callW, gLen, lenW_fr, lenD, frN, frLst, loN, loLst, lstM, tupM, frzA, fzM, frz1_fr, isM, gIs, tyW_fr, tyD, isTy, addD_int, eqG_int, List.map, List.length, List.cons_append, List.nil_append, List.append_nil, List.getElem?_cons_zero, List.getElem?_cons_succ, List.set_cons_zero, List.set_cons_succ, List.replicate, E3, seqD, this], rfl⟩)
      exact frN_eq (e.trans (by unfold colO; rw [List.map_map, List.map_map]; rfl)))
  exact setC_ok (frN_eq (ds := colsD other n) (e.trans (by unfold colsD; rw [List.map_map]; rfl)))
theorem zip_ok {i j : Nat} {s : S} {a b : D} {xs ys : List (Option Int)} (ha : vM i s = .ok (.fr a) s) (hb : vM j s = .ok (.fr b) s) (hx : itemsX a = some (xs.map iO)) (hy : itemsX b = some (ys.map iO)) :
    zipI (consA (vM i) (consA (vM j) nilA)) s = .ok (.fx ((xs.zip ys).map fun p => W.fr (.tup [iO p.1, iO p.2]))) s := by
  unfold zipI frzA consA nilA
  rw [ha, then_ok', hb, then_ok', then_ok', then_ok', then_ok']
  show ((frzs [W.fr a, W.fr b] s).then _) = _
  rw [show frzs [W.fr a, W.fr b] s = .ok [a, b] s from rfl, then_ok']
  unfold zipD
  dsimp only
  rw [hx, hy]
  dsimp only
  unfold Src.ds
  rw [List.zip_map, List.map_map, List.map_map]
  rfl
end K35
namespace K35
open PySem PySem.Spec PyProof.Rows L2 Z
def rowC (r : List (Option Int)) : Cell := .lst (r.map fun o => W.fr (iO o))
def rootC (m n : Nat) : Cell := .lst ((List.range n).map fun i => W.loc (m + i))
def nestC (st : List Cell) (rows : List (List (Option Int))) : List Cell := st ++ rows.map rowC ++ [rootC st.length rows.length]
def tabO (G : List (Option Int) → List (Option Int) → Option Int) (one other : List (List (Option Int))) (n : Nat) : List (List (Option Int)) := one.map fun row => (List.range n).map fun j => G row (colO other j)
theorem outer_ok {cell : S → R W} {G : List (Option Int) → List (Option Int) → Option Int} {t1 t2 : Bool} {M : D} {one other : List (List (Option Int))} {n : Nat} (h1 : one.length < 1000) (hb : n < 1000)
    (hcell : ∀ row ∈ one, ∀ j < n, ∀ st, cell ⟨[some (.fr (matD t1 t2 (rowsD one))), some (.fr M), some (.fr (.lst (colsD other n))), none, some (.fr (seqD t1 (row.map iO))), some (.fr (.lst ((colO other j).map iO))), none, none], st⟩
      = .ok (.fr (iO (G row (colO other j)))) ⟨[some (.fr (matD t1 t2 (rowsD one))), some (.fr M), some (.fr (.lst (colsD other n))), none, some (.fr (seqD t1 (row.map iO))), some (.fr (.lst ((colO other j).map iO))), none, none], st⟩) (st : List Cell) :
    ∃ s', rtC (loN (lcM (seqI (vM 0)) (bName 4) yesM (loN (lcM (seqI (vM 2)) (bName 5) yesM cell [5])) [4])) ⟨[some (.fr (matD t1 t2 (rowsD one))), some (.fr M), some (.fr (.lst (colsD other n))), none, none, none, none, none], st⟩
      = .rt (.loc (st.length + one.length)) s' ∧ s'.st = nestC st (tabO G one other n) := by
  let A := matD t1 t2 (rowsD one)
  let C := D.lst (colsD other n)
  let E : List (Option W) := [some (.fr A), some (.fr M), some (.fr C), none, none, none, none, none]
  have e := lcM_cells (mi := seqI (vM 0)) (bd := bName 4) (me := loN (lcM (seqI (vM 2)) (bName 5) yesM cell [5])) (vs := [4]) (s := ⟨E, st⟩) (s0 := ⟨E, st⟩) (xs := one) (fun r => W.fr (seqD t1 (r.map iO))) (fun row => ((List.range n).map fun j => G row (colO other j)).map fun o => W.fr (iO o))
    (by rw [seqI_fr (m := vM 0) (s := ⟨E, st⟩) (s0 := ⟨E, st⟩) (d := A) (ds := (rowsD one).map (seqD t1)) rfl (items_seq _ _), List.map_map, List.map_map]; rfl) (by rw [small24]; omega)
    (fun row hrow st => by
      let E4 : List (Option W) := [some (.fr A), some (.fr M), some (.fr C), none, some (.fr (seqD t1 (row.map iO))), none, none, none]
      have e := lcM_mapG (mi := seqI (vM 2)) (bd := bName 5) (me := cell) (vs := [5]) (s := ⟨E4, st⟩) (s0 := ⟨E4, st⟩) (xs := List.range n) (fun j => W.fr (.lst ((colO other j).map iO))) (fun j => W.fr (iO (G row (colO other j))))
        (by rw [seqI_fr (m := vM 2) (s := ⟨E4, st⟩) (s0 := ⟨E4, st⟩) (d := C) (ds := colsD other n) rfl rfl]; unfold colsD; rw [List.map_map]; rfl) (by rw [List.length_range, small24]; omega)
        (fun j hj => ⟨_, _, rfl, hcell row hrow j (List.mem_range.mp hj) st, rfl⟩)
      refine ⟨⟨E4, st⟩, ⟨E4, st ++ [.lst (((List.range n).map fun j => G row (colO other j)).map fun o => W.fr (iO o))]⟩, rfl, ?_, rfl⟩
      refine (loN_eq e).trans ?_
      rw [List.map_map]
      rfl)
  refine ⟨⟨E, nestC st (tabO G one other n)⟩, ?_, rfl⟩
  refine rtC_ok ((loN_eq e).trans ?_)
  have hl : ({ env := E, st := st ++ one.map fun x => Cell.lst (((List.range n).map fun j => G x (colO other j)).map fun o => W.fr (iO o)) } : S).st.length = st.length + one.length := by
    show (st ++ one.map _).length = _
    rw [List.length_append, List.length_map]
  rw [hl]
  unfold nestC tabO rootC
  rw [List.map_map, List.length_map]
  rfl
def addG (row col : List (Option Int)) : Option Int := leastO ((row.zip col).map fun p => addO p.1 p.2)
theorem product_of_ok {t1 t2 t3 t4 : Bool} {one other : List (List (Option Int))} {n : Nat} (h1 : one.length = n) (h2 : other.length = n) (r1 : ∀ r ∈ one, r.length = n) (r2 : ∀ r ∈ other, r.length = n) (hb : n < 1000) (st : List Cell) :
    e_product_of [.fr (matD t1 t2 (rowsD one)), .fr (matD t3 t4 (rowsD other))] st = .ok (.loc (st.length + n)) (nestC st (tabO addG one other n)) := by
  obtain ⟨s', q, hs⟩ := outer_ok (cell := callM 1 e_least (consA (frN (lcM (zipI (consA (vM 4) (consA (vM 5) nilA))) (bTup 2 (bCons (bName 6) (bCons (bName 7) bNil))) yesM (callM 2 e_added (consA (vM 6) (consA (vM 7) nilA))) [6, 7])) nilA))
    (G := addG) (t1 := t1) (t2 := t2) (M := matD t3 t4 (rowsD other)) (one := one) (other := other) (n := n) (by omega) hb (fun row hrow j hj st => by
      let E : List (Option W) := [some (.fr (matD t1 t2 (rowsD one))), some (.fr (matD t3 t4 (rowsD other))), some (.fr (.lst (colsD other n))), none, some (.fr (seqD t1 (row.map iO))), some (.fr (.lst ((colO other j).map iO))), none, none]
      have hz := zip_ok (i := 4) (j := 5) (s := ⟨E, st⟩) (a := seqD t1 (row.map iO)) (b := .lst ((colO other j).map iO)) rfl rfl (itemsX_seq _ _) rfl
      have hlen : (row.zip (colO other j)).length < 1000 := by rw [List.length_zip, r1 row hrow]; omega
      have e := lcM_mapG (mi := zipI (consA (vM 4) (consA (vM 5) nilA))) (bd := bTup 2 (bCons (bName 6) (bCons (bName 7) bNil))) (me := callM 2 e_added (consA (vM 6) (consA (vM 7) nilA))) (vs := [6, 7]) (s := ⟨E, st⟩) (s0 := ⟨E, st⟩) (xs := row.zip (colO other j)) (fun p => W.fr (.tup [iO p.1, iO p.2])) (fun p => W.fr (iO (addO p.1 p.2))) hz (by rw [small24]; omega)
        (fun p _ => by
          refine ⟨⟨(E.set 6 (some (.fr (iO p.1)))).set 7 (some (.fr (iO p.2))), st⟩, ⟨(E.set 6 (some (.fr (iO p.1)))).set 7 (some (.fr (iO p.2))), st⟩, rfl, ?_, rfl⟩
          have := added_ok p.1 p.2
          simp [startS_eq, rtC, setC, drC, ifC, parC, asgC, put, then_ok', toS_ok, bM, vM_eq, cM, op2, consA, nilA, cbM, g1, g2, view_fr, iop_int, asB_bl, mN, mNt, isN_non, isN_int, isN_lst, ifM, Z.orM, Z.andM, Z.notM, andV, orV, notV, trM, truW_fr, truD, ixM, ixW_fr, ixD, callM, callW, gLen, lenW_fr, lenD, frN, frLst, loN, loLst, lstM, tupM, frzA, fzM, frz1_fr, isM, gIs, tyW_fr, tyD, isTy, addD_int, eqG_int, List.map, List.length, List.cons_append, List.nil_append, List.append_nil, List.getElem?_cons_zero, List.getElem?_cons_succ, List.set_cons_zero, List.set_cons_succ, List.replicate, E, this])
      have f := frN_eq (ds := (((row.zip (colO other j)).map fun p => addO p.1 p.2).map iO)) (e.trans (by rw [List.map_map, List.map_map]; rfl))
      have l := least_ok ((row.zip (colO other j)).map fun p => addO p.1 p.2) (by rw [List.length_map]; exact hlen) st
      exact callM_ok (args1 f) rfl l) st
  have hn : runZ 8 (c_product_of e_added e_least) [.fr (matD t1 t2 (rowsD one)), .fr (matD t3 t4 (rowsD other))] st = .ok (.loc (st.length + one.length)) s'.st := runZ_new (by
    unfold c_product_of
    rw [seqC_nx (cols_ok h2 r2 hb st)]
    exact q) (by omega)
  rw [hs, h1] at hn
  exact hn
end K35
namespace K35
open PySem PySem.Spec PyProof.Rows L2 Z
def mxO : Option Int → Option Int → Option Int | some i, some j => some (if j > i then j else i) | _, _ => none
def joinG (row col : List (Option Int)) : Option Int := leastO ((row.zip col).map fun p => mxO p.1 p.2)
def AllS (xs : List (Option Int)) : Prop := ∀ o ∈ xs, ∃ v, o = some v
theorem AllS.ints : ∀ {xs : List (Option Int)}, AllS xs → ∃ ns : List Int, xs = ns.map some
  | [], _ => ⟨[], rfl⟩
  | x :: xs, h => by
    obtain ⟨v, rfl⟩ := h x List.mem_cons_self
    obtain ⟨ns, rfl⟩ := AllS.ints (xs := xs) fun o ho => h o (List.mem_cons_of_mem _ ho)
    exact ⟨v :: ns, rfl⟩
theorem leastO_some (ns : List Int) (h : ns ≠ []) : leastO (ns.map some) = some (minL ns) := by
  have : (ns.map some).filterMap id = ns := by rw [List.filterMap_map]; simp
  unfold leastO
  rw [this, if_neg h]
theorem min_all {xs : List (Option Int)} (h : AllS xs) (hne : xs ≠ []) (s : S) : g1 minD s [.fr (.lst (xs.map iO))] = .ok (.fr (iO (leastO xs))) s := by
  obtain ⟨ns, rfl⟩ := h.ints
  have hn : ns ≠ [] := fun z => hne (by rw [z]; rfl)
  have e : (ns.map some).map iO = ns.map D.int := by rw [List.map_map]; rfl
  rw [e, leastO_some ns hn]
  unfold g1
  dsimp only
  rw [view_fr]
  dsimp only
  unfold minD lstI
  dsimp only
  rw [allI_map]
  dsimp only
  rw [if_neg hn]
  rfl
theorem max2_ok {a b : Option Int} (ha : ∃ v, a = some v) (hb : ∃ v, b = some v) (s : S) : g2 max2D s [.fr (iO a), .fr (iO b)] = .ok (.fr (iO (mxO a b))) s ∧ ∃ v, mxO a b = some v := by
  obtain ⟨v, rfl⟩ := ha
  obtain ⟨u, rfl⟩ := hb
  exact ⟨rfl, _, rfl⟩
def Full (rows : List (List (Option Int))) : Prop := ∀ r ∈ rows, AllS r
theorem colO_all {other : List (List (Option Int))} {n j : Nat} (h : Full other) (hr : ∀ r ∈ other, r.length = n) (hj : j < n) : AllS (colO other j) := by
  intro o ho
  obtain ⟨r, hr', rfl⟩ := List.mem_map.mp ho
  rw [List.getD_eq_getElem?_getD, List.getElem?_eq_getElem (by rw [hr r hr']; exact hj)]
  exact h r hr' _ (List.getElem_mem _)
theorem joined_ok {t1 t2 t3 t4 : Bool} {one other : List (List (Option Int))} {n : Nat} (h1 : one.length = n) (h2 : other.length = n) (r1 : ∀ r ∈ one, r.length = n) (r2 : ∀ r ∈ other, r.length = n) (f1 : Full one) (f2 : Full other) (hb : n < 1000) (st : List Cell) :
    e_joined_shape [.fr (matD t1 t2 (rowsD one)), .fr (matD t3 t4 (rowsD other))] st = .ok (.loc (st.length + n)) (nestC st (tabO joinG one other n)) := by
  obtain ⟨s', q, hs⟩ := outer_ok (cell := cbM (g1 minD) (consA (frN (lcM (zipI (consA (vM 4) (consA (vM 5) nilA))) (bTup 2 (bCons (bName 6) (bCons (bName 7) bNil))) yesM (cbM (g2 max2D) (consA (vM 6) (consA (vM 7) nilA))) [6, 7])) nilA))
    (G := joinG) (t1 := t1) (t2 := t2) (M := matD t3 t4 (rowsD other)) (one := one) (other := other) (n := n) (by omega) hb (fun row hrow j hj st => by
      let E : List (Option W) := [some (.fr (matD t1 t2 (rowsD one))), some (.fr (matD t3 t4 (rowsD other))), some (.fr (.lst (colsD other n))), none, some (.fr (seqD t1 (row.map iO))), some (.fr (.lst ((colO other j).map iO))), none, none]
      have hz := zip_ok (i := 4) (j := 5) (s := ⟨E, st⟩) (a := seqD t1 (row.map iO)) (b := .lst ((colO other j).map iO)) rfl rfl (itemsX_seq _ _) rfl
      have hzl : (row.zip (colO other j)).length = n := by rw [List.length_zip, r1 row hrow]; unfold colO; rw [List.length_map, h2]; omega
      have hm : ∀ p ∈ row.zip (colO other j), (∃ v, p.1 = some v) ∧ ∃ v, p.2 = some v := fun p hp => ⟨f1 row hrow _ (List.of_mem_zip hp).1, colO_all f2 r2 hj _ (List.of_mem_zip hp).2⟩
      have e := lcM_mapG (mi := zipI (consA (vM 4) (consA (vM 5) nilA))) (bd := bTup 2 (bCons (bName 6) (bCons (bName 7) bNil))) (me := cbM (g2 max2D) (consA (vM 6) (consA (vM 7) nilA))) (vs := [6, 7]) (s := ⟨E, st⟩) (s0 := ⟨E, st⟩) (xs := row.zip (colO other j)) (fun p => W.fr (.tup [iO p.1, iO p.2])) (fun p => W.fr (iO (mxO p.1 p.2))) hz (by rw [small24]; omega)
        (fun p hp => by
          refine ⟨⟨(E.set 6 (some (.fr (iO p.1)))).set 7 (some (.fr (iO p.2))), st⟩, ⟨(E.set 6 (some (.fr (iO p.1)))).set 7 (some (.fr (iO p.2))), st⟩, rfl, ?_, rfl⟩
          exact (cbM_ok (argsS (s' := ⟨(E.set 6 (some (.fr (iO p.1)))).set 7 (some (.fr (iO p.2))), st⟩) rfl (args1 rfl))).trans (max2_ok (hm p hp).1 (hm p hp).2 _).1)
      have f := frN_eq (ds := (((row.zip (colO other j)).map fun p => mxO p.1 p.2).map iO)) (e.trans (by rw [List.map_map, List.map_map]; rfl))
      refine (cbM_ok (args1 f)).trans (min_all (fun o ho => ?_) (fun z => ?_) _)
      · obtain ⟨p, hp, rfl⟩ := List.mem_map.mp ho
        exact (max2_ok (hm p hp).1 (hm p hp).2 ⟨E, st⟩).2
      · have := congrArg List.length z
        rw [List.length_map, hzl] at this
        simp at this
        omega) st
  have hn : runZ 8 c_joined_shape [.fr (matD t1 t2 (rowsD one)), .fr (matD t3 t4 (rowsD other))] st = .ok (.loc (st.length + one.length)) s'.st := runZ_new (by
    unfold c_joined_shape
    rw [seqC_nx (cols_ok h2 r2 hb st)]
    exact q) (by omega)
  rw [hs, h1] at hn
  exact hn
/-! the checks of shapes -/
def Small (rows : List (List (Option Int))) : Prop := ∀ r ∈ rows, ∀ o ∈ r, ∃ v, o = some v ∧ 0 ≤ v ∧ v ≤ 3
theorem Small.full {rows : List (List (Option Int))} (h : Small rows) : Full rows := fun r hr o ho => let ⟨v, e, _⟩ := h r hr o ho; ⟨v, e⟩
theorem is_between_ok {v : Int} (h0 : 0 ≤ v) (h1 : v ≤ 3) (st : List Cell) : e_is_between [.fr (.int v), .fr (.int 0), .fr (.int 3)] st = .ok (.fr (.bl true)) st := by
  refine runZ_rt (s := ⟨[some (.fr (.int v)), some (.fr (.int 0)), some (.fr (.int 3))], st⟩) ?_ rfl
  have := is_integer_ok v st
  simp [c_is_between, startS_eq, rtC, setC, drC, ifC, parC, asgC, put, then_ok', toS_ok, bM, vM_eq, cM, op2, consA, nilA, cbM, g1, g2, view_fr, iop_int, asB_bl, mN, mNt, isN_non, isN_int, isN_lst, ifM, Z.orM, Z.andM, Z.notM, andV, orV, notV, trM, truW_fr, truD, ixM, ixW_fr, ixD, callM, callW, gLen, lenW_fr, lenD, frN, frLst, loN, loLst, lstM, tupM, frzA, fzM, frz1_fr, isM, gIs, tyW_fr, tyD, isTy, addD_int, eqG_int, List.map, List.length, List.cons_append, List.nil_append, List.append_nil, List.getElem?_cons_zero, List.getElem?_cons_succ, List.set_cons_zero, List.set_cons_succ, List.replicate, this, chM, h0, h1]
theorem is_shape_ok (t1 t2 : Bool) {rows : List (List (Option Int))} {n : Nat} (hn : rows.length = n) (hr : ∀ r ∈ rows, r.length = n) (hs : Small rows) (hb : n < 1000) (st : List Cell) :
    e_is_shape [.fr (matD t1 t2 (rowsD rows)), .fr (.int n)] st = .ok (.fr (.bl true)) st := by
  have sq := is_square_ok t1 t2 (rows := rowsD rows) (n := n) (by simpa using hn) (fun r h => by
    obtain ⟨r', h', rfl⟩ := List.mem_map.mp h
    rw [List.length_map]; exact hr r' h') hb
  let E : List (Option W) := [some (.fr (matD t1 t2 (rowsD rows))), some (.fr (.int n)), none, none]
  refine runZ_rt (s := ⟨E, st⟩) ?_ rfl
  obtain ⟨m, e2⟩ := lc2M_true (mi := seqI (vM 0)) (bd := bName 2) (mi1 := seqI (vM 2)) (bd1 := bName 3) (me := callM 3 e_is_between (consA (vM 3) (consA (cM (.int 0)) (consA (cM (.int 3)) nilA)))) (vs := [2, 3]) (vs1 := [3]) (s := ⟨E, st⟩) (s0 := ⟨E, st⟩)
    (xs := rows) (fun r => W.fr (seqD t1 (r.map iO))) (fun r => r) (fun _ i => W.fr (iO i)) n
    (by rw [seqI_fr (m := vM 0) (s := ⟨E, st⟩) (s0 := ⟨E, st⟩) (d := matD t1 t2 (rowsD rows)) (ds := (rowsD rows).map (seqD t1)) rfl (items_seq _ _), List.map_map, List.map_map]; rfl)
    (by rw [hn, small24]; have := Nat.mul_le_mul (Nat.le_of_lt hb) (Nat.le_of_lt hb); omega)
    (fun r h => ⟨Nat.le_of_eq (hr r h), ⟨[some (.fr (matD t1 t2 (rowsD rows))), some (.fr (.int n)), some (.fr (seqD t1 (r.map iO))), none], st⟩, ⟨[some (.fr (matD t1 t2 (rowsD rows))), some (.fr (.int n)), some (.fr (seqD t1 (r.map iO))), none], st⟩, rfl,
      by rw [seqI_fr (m := vM 2) (s := ⟨[some (.fr (matD t1 t2 (rowsD rows))), some (.fr (.int n)), some (.fr (seqD t1 (r.map iO))), none], st⟩) (d := seqD t1 (r.map iO)) (ds := r.map iO) rfl (items_seq _ _), List.map_map]; rfl, rfl,
      fun i hi => ⟨⟨[some (.fr (matD t1 t2 (rowsD rows))), some (.fr (.int n)), some (.fr (seqD t1 (r.map iO))), some (.fr (iO i))], st⟩, ⟨[some (.fr (matD t1 t2 (rowsD rows))), some (.fr (.int n)), some (.fr (seqD t1 (r.map iO))), some (.fr (iO i))], st⟩, rfl, by
        obtain ⟨v, rfl, h0, h3⟩ := hs r h i hi
        have := is_between_ok h0 h3
        simp [startS_eq, rtC, setC, drC, ifC, parC, asgC, put, then_ok', toS_ok, bM, vM_eq, cM, op2, consA, nilA, cbM, g1, g2, view_fr, iop_int, asB_bl, mN, mNt, isN_non, isN_int, isN_lst, ifM, Z.orM, Z.andM, Z.notM, andV, orV, notV, trM, truW_fr, truD, ixM, ixW_fr, ixD, callM, callW, gLen, lenW_fr, lenD, frN, frLst, loN, loLst, lstM, tupM, frzA, fzM, frz1_fr, isM, gIs, tyW_fr, tyD, isTy, addD_int, eqG_int, List.map, List.length, List.cons_append, List.nil_append, List.append_nil, List.getElem?_cons_zero, List.getElem?_cons_succ, List.set_cons_zero, List.set_cons_succ, List.replicate, iO, this], rfl⟩⟩)
  unfold c_is_shape
  refine rtC_ok ?_
  have e3 := cb_all (frN_eq e2)
  have e1 : callM 2 e_is_square (consA (vM 0) (consA (vM 1) nilA)) ⟨E, st⟩ = .ok (.fr (.bl true)) ⟨E, st⟩ := callM_ok (argsS (s' := ⟨E, st⟩) rfl (args1 rfl)) rfl (sq st)
  show andV _ _ ⟨E, st⟩ = _
  unfold andV
  rw [e1, asB_bl, then_ok', if_pos rfl]
  exact e3
theorem check_shape_ok (t1 t2 : Bool) {rows : List (List (Option Int))} {n : Nat} (hn : rows.length = n) (hr : ∀ r ∈ rows, r.length = n) (hs : Small rows) (hb : n < 1000) (st : List Cell) :
    e_check_shape [.fr (matD t1 t2 (rowsD rows)), .fr (.int n)] st = .ok (.fr .non) st := by
  have := is_shape_ok t1 t2 hn hr hs hb st
  unfold e_check_shape runZ
  have e : c_check_shape e_is_shape (startS 2 [.fr (matD t1 t2 (rowsD rows)), .fr (.int n)] st) = .nx ⟨[some (.fr (matD t1 t2 (rowsD rows))), some (.fr (.int n))], st⟩ := by
    simp [c_check_shape, startS_eq, rtC, setC, drC, ifC, parC, asgC, put, then_ok', toS_ok, bM, vM_eq, cM, op2, consA, nilA, cbM, g1, g2, view_fr, iop_int, asB_bl, mN, mNt, isN_non, isN_int, isN_lst, ifM, Z.orM, Z.andM, Z.notM, andV, orV, notV, trM, truW_fr, truD, ixM, ixW_fr, ixD, callM, callW, gLen, lenW_fr, lenD, frN, frLst, loN, loLst, lstM, tupM, frzA, fzM, frz1_fr, isM, gIs, tyW_fr, tyD, isTy, addD_int, eqG_int, List.map, List.length, List.cons_append, List.nil_append, List.append_nil, List.getElem?_cons_zero, List.getElem?_cons_succ, List.set_cons_zero, List.set_cons_succ, List.replicate, this, nxC]
  rw [e]
  exact cut_fr' .non st
theorem multiply_shapes_ok {t1 t2 t3 t4 : Bool} {one other : List (List (Option Int))} {n : Nat} (h1 : one.length = n) (h2 : other.length = n) (r1 : ∀ r ∈ one, r.length = n) (r2 : ∀ r ∈ other, r.length = n) (f1 : Small one) (f2 : Small other) (hb : n < 1000) (st : List Cell) :
    e_multiply_shapes [.fr (matD t1 t2 (rowsD one)), .fr (matD t3 t4 (rowsD other))] st = .ok (.loc (st.length + n)) (nestC st (tabO joinG one other n)) := by
  have c1 := check_shape_ok t1 t2 h1 r1 f1 hb st
  have c2 := check_shape_ok t3 t4 h2 r2 f2 hb st
  have o1 := own_size_ok t1 t2 (rowsD one) st
  have j := joined_ok (t1 := t1) (t2 := t2) (t3 := t3) (t4 := t4) h1 h2 r1 r2 f1.full f2.full hb st
  have hl : (rowsD one).length = n := by rw [List.length_map, h1]
  rw [hl] at o1
  have lw : ∀ s, gLen s [.fr (matD t1 t2 (rowsD one))] = .ok (.fr (.int n)) s := fun s => by
    unfold gLen matD
    dsimp only
    rw [lenW_fr, len_seq, List.length_map, List.length_map, h1]
  refine (runZ_new (k := st.length + n) (s := ⟨[some (.fr (matD t1 t2 (rowsD one))), some (.fr (matD t3 t4 (rowsD other)))], nestC st (tabO joinG one other n)⟩) ?_ (by omega))
  simp [c_multiply_shapes, startS_eq, seqC, drC, then_ok', toS_ok, consA, nilA, cbM, callM, callW, vM_eq, rtC, c1, c2, o1, j, lw]
theorem multiply_costs_ok {t1 t2 t3 t4 : Bool} {one other : List (List (Option Int))} {n : Nat} (h1 : one.length = n) (h2 : other.length = n) (r1 : ∀ r ∈ one, r.length = n ∧ ∀ i ∈ r, ∀ v, i = some v → 0 ≤ v) (r2 : ∀ r ∈ other, r.length = n ∧ ∀ i ∈ r, ∀ v, i = some v → 0 ≤ v) (hb : n < 1000) (st : List Cell) :
    e_multiply_costs [.fr (matD t1 t2 (rowsD one)), .fr (matD t3 t4 (rowsD other))] st = .ok (.loc (st.length + n)) (nestC st (tabO addG one other n)) := by
  have c1 := is_matrix_ok t1 t2 h1 r1 hb st
  have c2 := is_matrix_ok t3 t4 h2 r2 hb st
  have o1 := own_size_ok t1 t2 (rowsD one) st
  have j := product_of_ok (t1 := t1) (t2 := t2) (t3 := t3) (t4 := t4) h1 h2 (fun r h => (r1 r h).1) (fun r h => (r2 r h).1) hb st
  have hl : (rowsD one).length = n := by rw [List.length_map, h1]
  rw [hl] at o1
  refine (runZ_new (k := st.length + n) (s := ⟨[some (.fr (matD t1 t2 (rowsD one))), some (.fr (matD t3 t4 (rowsD other))), some (.fr (matD t3 t4 (rowsD other)))], nestC st (tabO addG one other n)⟩) ?_ (by omega))
  have small2 : 2 ≤ sizeLine := by decide
  simp [c_multiply_costs, startS_eq, seqC, then_ok', toS_ok, consA, nilA, callM, callW, vM_eq, rtC, c1, c2, o1, j, forC, forF, seqI, srcW_fr, tupM, frzA, frzs, frzL, frz1_fr, small2, itemsD, Src.ds, fx_len, forGo, fx_get, bName, ifC, Z.notM, trM, truW_fr, truD, nxC]
end K35
namespace K35
open PySem PySem.Spec PyProof.Rows L2 Z
def shO : Option Int → Option Int | none => some 3 | some i => some (if 1 < i then 1 else i)
theorem shape_of_ok {t1 t2 : Bool} {one : List (List (Option Int))} {n : Nat} (h1 : one.length = n) (r1 : ∀ r ∈ one, r.length = n ∧ ∀ i ∈ r, ∀ v, i = some v → 0 ≤ v) (hb : n < 1000) (st : List Cell) :
    e_shape_of [.fr (matD t1 t2 (rowsD one))] st = .ok (.loc (st.length + n)) (nestC st (one.map (List.map shO))) := by
  have c1 := is_matrix_ok t1 t2 h1 r1 hb st
  have o1 := own_size_ok t1 t2 (rowsD one) st
  have hl : (rowsD one).length = n := by rw [List.length_map, h1]
  rw [hl] at o1
  let A := matD t1 t2 (rowsD one)
  let E : List (Option W) := [some (.fr A), none, none]
  have e1 : ifC (Z.notM (trM (callM 2 e_is_matrix (consA (vM 0) (consA (callM 1 e_own_size (consA (vM 0) nilA)) nilA))))) badC nxC (startS 3 [.fr A] st) = .nx ⟨E, st⟩ := by
    simp [startS_eq, rtC, setC, drC, ifC, parC, asgC, put, then_ok', toS_ok, bM, vM_eq, cM, op2, consA, nilA, cbM, g1, g2, view_fr, iop_int, asB_bl, mN, mNt, isN_non, isN_int, isN_lst, ifM, Z.orM, Z.andM, Z.notM, andV, orV, notV, trM, truW_fr, truD, ixM, ixW_fr, ixD, callM, callW, gLen, lenW_fr, lenD, frN, frLst, loN, loLst, lstM, tupM, frzA, fzM, frz1_fr, isM, gIs, tyW_fr, tyD, isTy, addD_int, eqG_int, List.map, List.length, List.cons_append, List.nil_append, List.append_nil, List.getElem?_cons_zero, List.getElem?_cons_succ, List.set_cons_zero, List.set_cons_succ, List.replicate, c1, o1, nxC, E, A]
  have e := lcM_cells (mi := seqI (vM 0)) (bd := bName 1) (me := loN (lcM (seqI (vM 1)) (bName 2) yesM (ifM (mNt false (vM 2)) (cM (.int 3)) (cbM (g2 min2D) (consA (vM 2) (consA (cM (.int 1)) nilA)))) [2])) (vs := [1]) (s := ⟨E, st⟩) (s0 := ⟨E, st⟩) (xs := one) (fun r => W.fr (seqD t1 (r.map iO))) (fun row => (row.map shO).map fun o => W.fr (iO o))
    (by rw [seqI_fr (m := vM 0) (s := ⟨E, st⟩) (s0 := ⟨E, st⟩) (d := A) (ds := (rowsD one).map (seqD t1)) rfl (items_seq _ _), List.map_map, List.map_map]; rfl) (by rw [small24]; omega)
    (fun row hrow st => by
      let E4 : List (Option W) := [some (.fr A), some (.fr (seqD t1 (row.map iO))), none]
      have e := lcM_mapG (mi := seqI (vM 1)) (bd := bName 2) (me := ifM (mNt false (vM 2)) (cM (.int 3)) (cbM (g2 min2D) (consA (vM 2) (consA (cM (.int 1)) nilA)))) (vs := [2]) (s := ⟨E4, st⟩) (s0 := ⟨E4, st⟩) (xs := row) (fun o => W.fr (iO o)) (fun o => W.fr (iO (shO o)))
        (by rw [seqI_fr (m := vM 1) (s := ⟨E4, st⟩) (s0 := ⟨E4, st⟩) (d := seqD t1 (row.map iO)) (ds := row.map iO) rfl (items_seq _ _), List.map_map]; rfl) (by rw [small24, (r1 row hrow).1]; omega)
        (fun o ho => ⟨⟨[some (.fr A), some (.fr (seqD t1 (row.map iO))), some (.fr (iO o))], st⟩, ⟨[some (.fr A), some (.fr (seqD t1 (row.map iO))), some (.fr (iO o))], st⟩, rfl, by
          cases o <;> simp [startS_eq, rtC, setC, drC, ifC, parC, asgC, put, then_ok', toS_ok, bM, vM_eq, cM, op2, consA, nilA, cbM, g1, g2, view_fr, iop_int, asB_bl, mN, mNt, isN_non, isN_int, isN_lst, ifM, Z.orM, Z.andM, Z.notM, andV, orV, notV, trM, truW_fr, truD, ixM, ixW_fr, ixD, callM, callW, gLen, lenW_fr, lenD, frN, frLst, loN, loLst, lstM, tupM, frzA, fzM, frz1_fr, isM, gIs, tyW_fr, tyD, isTy, addD_int, eqG_int, List.map, List.length, List.cons_append, List.nil_append, List.append_nil, List.getElem?_cons_zero, List.getElem?_cons_succ, List.set_cons_zero, List.set_cons_succ, List.replicate, iO, shO], rfl⟩)
      refine ⟨⟨E4, st⟩, ⟨E4, st ++ [.lst ((row.map shO).map fun o => W.fr (iO o))]⟩, rfl, ?_, rfl⟩
      refine (loN_eq e).trans ?_
      rw [List.map_map]
      rfl)
  have q : rtC (loN (lcM (seqI (vM 0)) (bName 1) yesM (loN (lcM (seqI (vM 1)) (bName 2) yesM (ifM (mNt false (vM 2)) (cM (.int 3)) (cbM (g2 min2D) (consA (vM 2) (consA (cM (.int 1)) nilA)))) [2])) [1])) ⟨E, st⟩ = .rt (.loc (st.length + n)) ⟨E, nestC st (one.map (List.map shO))⟩ := by
    refine rtC_ok ((loN_eq e).trans ?_)
    have hl : ({ env := E, st := st ++ one.map fun x => Cell.lst ((x.map shO).map fun o => W.fr (iO o)) } : S).st.length = st.length + n := by
      show (st ++ one.map _).length = _
      rw [List.length_append, List.length_map, h1]
    rw [hl]
    unfold nestC rootC
    rw [List.map_map, List.length_map]
    rfl
  refine runZ_new (s := ⟨E, nestC st (one.map (List.map shO))⟩) ?_ (by omega)
  unfold c_shape_of
  rw [seqC_nx e1]
  exact q
/-! the law's own tables -/
theorem getD_some {r : List (Option Int)} {k : Nat} (h : k < r.length) : r[k]? = some (r.getD k none) := by
  rw [List.getD_eq_getElem?_getD, List.getElem?_eq_getElem h]; rfl
theorem zip_range {row : List (Option Int)} {other : List (List (Option Int))} {n j : Nat} (h1 : row.length = n) (h2 : other.length = n) : row.zip (colO other j) = (List.range n).map fun k => (row.getD k none, (other.getD k []).getD j none) := by
  refine List.ext_getElem? fun k => ?_
  rw [List.getElem?_map]
  by_cases hk : k < n
  · rw [List.getElem?_range hk]
    show _ = some _
    rw [List.getElem?_zip_eq_some]
    refine ⟨getD_some (by omega), ?_⟩
    unfold colO
    rw [List.getElem?_map]
    show Option.map _ other[k]? = some ((other.getD k []).getD j none)
    rw [List.getD_eq_getElem?_getD (l := other), List.getElem?_eq_getElem (by omega : k < other.length)]
    rfl
  · rw [List.getElem?_eq_none (by rw [List.length_zip]; omega), List.getElem?_eq_none (by rw [List.length_range]; omega)]
    rfl
theorem ix_mat {other : List (List (Option Int))} {k : Nat} (h : k < other.length) : atI ((rowsD other).map D.lst) (k : Int) = some (.lst ((other.getD k []).map iO)) := by
  rw [atI_nat (by rw [List.length_map, List.length_map]; exact h), List.getElem_map, List.getElem_map, List.getD_eq_getElem?_getD, List.getElem?_eq_getElem h]
  rfl
theorem paths_ok {one other : List (List (Option Int))} {n : Nat} (h1 : one.length = n) (h2 : other.length = n) (r1 : ∀ r ∈ one, r.length = n) (r2 : ∀ r ∈ other, r.length = n) (f1 : Full one) (f2 : Full other) (hb : n < 1000) (st : List Cell) :
    e__law_paths [.fr (lstM' (rowsD one)), .fr (lstM' (rowsD other))] st = .ok (.fr (lstM' (rowsD (tabO joinG one other n)))) st := by
  let A := lstM' (rowsD one)
  let B := lstM' (rowsD other)
  let E : List (Option W) := [some (.fr A), some (.fr B), some (.fr (.int n)), none, none, none]
  have e1 : setC 2 (cbM gLen (consA (vM 0) nilA)) (startS 6 [.fr A, .fr B] st) = .nx ⟨E, st⟩ := by
    simp [startS_eq, rtC, setC, drC, ifC, parC, asgC, put, then_ok', toS_ok, bM, vM_eq, cM, op2, consA, nilA, cbM, g1, g2, view_fr, iop_int, asB_bl, mN, mNt, isN_non, isN_int, isN_lst, ifM, Z.orM, Z.andM, Z.notM, andV, orV, notV, trM, truW_fr, truD, ixM, ixW_fr, ixD, callM, callW, gLen, lenW_fr, lenD, frN, frLst, loN, loLst, lstM, tupM, frzA, fzM, frz1_fr, isM, gIs, tyW_fr, tyD, isTy, addD_int, eqG_int, List.map, List.length, List.cons_append, List.nil_append, List.append_nil, List.getElem?_cons_zero, List.getElem?_cons_succ, List.set_cons_zero, List.set_cons_succ, List.replicate, E, A, h1]
  have rng : ∀ (a b c : Option W) (st : List Cell), rngI1 (consA (vM 2) nilA) ⟨[some (.fr A), some (.fr B), some (.fr (.int n)), a, b, c], st⟩ = .ok (.fx ((List.range n).map fun i => W.fr (.int (i : Nat)))) ⟨[some (.fr A), some (.fr B), some (.fr (.int n)), a, b, c], st⟩ := fun a b c st => by
    rw [← rngW_eq]
    exact rngI1_ok (by simp [startS_eq, rtC, setC, drC, ifC, parC, asgC, put, then_ok', toS_ok, bM, vM_eq, cM, op2, consA, nilA, cbM, g1, g2, view_fr, iop_int, asB_bl, mN, mNt, isN_non, isN_int, isN_lst, ifM, Z.orM, Z.andM, Z.notM, andV, orV, notV, trM, truW_fr, truD, ixM, ixW_fr, ixD, callM, callW, gLen, lenW_fr, lenD, frN, frLst, loN, loLst, lstM, tupM, frzA, fzM, frz1_fr, isM, gIs, tyW_fr, tyD, isTy, addD_int, eqG_int, List.map, List.length, List.cons_append, List.nil_append, List.append_nil, List.getElem?_cons_zero, List.getElem?_cons_succ, List.set_cons_zero, List.set_cons_succ, List.replicate]) (by omega)
  have e := lcM_mapG (mi := seqI (vM 0)) (bd := bName 3) (me := frN (lcM (rngI1 (consA (vM 2) nilA)) (bName 4) yesM (cbM (g1 minD) (consA (frN (lcM (rngI1 (consA (vM 2) nilA)) (bName 5) yesM (cbM (g2 max2D) (consA (ixM (vM 3) (vM 5)) (consA (ixM (ixM (vM 1) (vM 5)) (vM 4)) nilA))) [5])) nilA)) [4])) (vs := [3]) (s := ⟨E, st⟩) (s0 := ⟨E, st⟩) (xs := one) (fun r => W.fr (.lst (r.map iO))) (fun r => W.fr (.lst (((List.range n).map fun j => joinG r (colO other j)).map iO)))
    (by rw [seqI_fr (m := vM 0) (s := ⟨E, st⟩) (s0 := ⟨E, st⟩) (d := A) (ds := (rowsD one).map D.lst) rfl rfl, List.map_map, List.map_map]; rfl) (by rw [small24]; omega)
    (fun row hrow => by
      let E3 : List (Option W) := [some (.fr A), some (.fr B), some (.fr (.int n)), some (.fr (.lst (row.map iO))), none, none]
      refine ⟨⟨E3, st⟩, ⟨E3, st⟩, rfl, ?_, rfl⟩
      have e := lcM_mapG (mi := rngI1 (consA (vM 2) nilA)) (bd := bName 4) (me := cbM (g1 minD) (consA (frN (lcM (rngI1 (consA (vM 2) nilA)) (bName 5) yesM (cbM (g2 max2D) (consA (ixM (vM 3) (vM 5)) (consA (ixM (ixM (vM 1) (vM 5)) (vM 4)) nilA))) [5])) nilA)) (vs := [4]) (s := ⟨E3, st⟩) (s0 := ⟨E3, st⟩) (xs := List.range n) (fun i => W.fr (.int (i : Nat))) (fun j => W.fr (iO (joinG row (colO other j))))
        (rng _ _ _ _) (by rw [List.length_range, small24]; omega) (fun j hj => by
          have hj := List.mem_range.mp hj
          let E4 : List (Option W) := [some (.fr A), some (.fr B), some (.fr (.int n)), some (.fr (.lst (row.map iO))), some (.fr (.int (j : Nat))), none]
          refine ⟨⟨E4, st⟩, ⟨E4, st⟩, rfl, ?_, rfl⟩
          have hz := zip_range (j := j) (r1 row hrow) h2
          have hm : ∀ p ∈ row.zip (colO other j), (∃ v, p.1 = some v) ∧ ∃ v, p.2 = some v := fun p hp => ⟨f1 row hrow _ (List.of_mem_zip hp).1, colO_all f2 r2 hj _ (List.of_mem_zip hp).2⟩
          have e := lcM_mapG (mi := rngI1 (consA (vM 2) nilA)) (bd := bName 5) (me := cbM (g2 max2D) (consA (ixM (vM 3) (vM 5)) (consA (ixM (ixM (vM 1) (vM 5)) (vM 4)) nilA))) (vs := [5]) (s := ⟨E4, st⟩) (s0 := ⟨E4, st⟩) (xs := List.range n) (fun i => W.fr (.int (i : Nat))) (fun k => W.fr (iO (mxO (row.getD k none) ((other.getD k []).getD j none))))
            (rng _ _ _ _) (by rw [List.length_range, small24]; omega) (fun k hk => by
              have hk := List.mem_range.mp hk
              let E5 : List (Option W) := [some (.fr A), some (.fr B), some (.fr (.int n)), some (.fr (.lst (row.map iO))), some (.fr (.int (j : Nat))), some (.fr (.int (k : Nat)))]
              refine ⟨⟨E5, st⟩, ⟨E5, st⟩, rfl, ?_, rfl⟩
              have a1 := atI_row (r := row) (j := k) (by rw [r1 row hrow]; exact hk)
              have a2 := ix_mat (other := other) (k := k) (by omega)
              have hmem : other.getD k [] ∈ other := by
                rw [List.getD_eq_getElem?_getD, List.getElem?_eq_getElem (by omega : k < other.length)]
                exact List.getElem_mem _
              have a3 := atI_row (r := other.getD k []) (j := j) (by rw [r2 _ hmem]; exact hj)
              have hp := hm (row.getD k none, (other.getD k []).getD j none) (by rw [hz]; exact List.mem_map.mpr ⟨k, List.mem_range.mpr hk, rfl⟩)
              have i1 : ixM (vM 3) (vM 5) ⟨E5, st⟩ = .ok (.fr (iO (row.getD k none))) ⟨E5, st⟩ := by simp only [startS_eq, rtC, setC, drC, ifC, parC, asgC, put, then_ok', toS_ok, bM, vM_eq, cM, op2, consA, nilA, cbM, g1, g2, view_fr, iop_int, asB_bl, mN, mNt, isN_non, isN_int, isN_lst, ifM, Z.orM, Z.andM, Z.notM, andV, orV, notV, trM, truW_fr, truD, ixM, ixW_fr, ixD, callM, callW, gLen, lenW_fr, lenD, frN, frLst, loN, loLst, lstM, tupM, frzA, fzM, frz1_fr, isM, gIs, tyW_fr, tyD, isTy, addD_int, eqG_int, List.map, List.length, List.cons_append, List.nil_append, List.append_nil, List.getElem?_cons_zero, List.getElem?_cons_succ, List.set_cons_zero, List.set_cons_succ, List.replicate, E5, a1, Option.map]
              have i2 : ixM (ixM (vM 1) (vM 5)) (vM 4) ⟨E5, st⟩ = .ok (.fr (iO ((other.getD k []).getD j none))) ⟨E5, st⟩ := by simp only [startS_eq, rtC, setC, drC, ifC, parC, asgC, put, then_ok', toS_ok, bM, vM_eq, cM, op2, consA, nilA, cbM, g1, g2, view_fr, iop_int, asB_bl, mN, mNt, isN_non, isN_int, isN_lst, ifM, Z.orM, Z.andM, Z.notM, andV, orV, notV, trM, truW_fr, truD, ixM, ixW_fr, ixD, callM, callW, gLen, lenW_fr, lenD, frN, frLst, loN, loLst, lstM, tupM, frzA, fzM, frz1_fr, isM, gIs, tyW_fr, tyD, isTy, addD_int, eqG_int, List.map, List.length, List.cons_append, List.nil_append, List.append_nil, List.getElem?_cons_zero, List.getElem?_cons_succ, List.set_cons_zero, List.set_cons_succ, List.replicate, E5, B, a2, a3, Option.map]
              exact (cbM_ok (argsS i1 (args1 i2))).trans (max2_ok hp.1 hp.2 _).1)
          have f := frN_eq (ds := ((row.zip (colO other j)).map fun p => mxO p.1 p.2).map iO) (e.trans (by rw [hz, List.map_map, List.map_map, List.map_map]; rfl))
          refine (cbM_ok (args1 f)).trans (min_all (fun o ho => ?_) (fun z => ?_) _)
          · obtain ⟨p, hp, rfl⟩ := List.mem_map.mp ho
            exact (max2_ok (hm p hp).1 (hm p hp).2 ⟨E, st⟩).2
          · have := congrArg List.length z
            rw [List.length_map, hz] at this
            simp at this
            omega)
      exact frN_eq (e.trans (by rw [List.map_map, List.map_map]; rfl)))
  refine runZ_rt (s := ⟨E, st⟩) ?_ rfl
  unfold c__law_paths
  rw [seqC_nx e1]
  refine rtC_ok (frN_eq (e.trans ?_))
  unfold rowsD tabO
  rw [List.map_map, List.map_map, List.map_map]
  rfl
end K35
namespace K35
open PySem PySem.Spec PyProof.Rows L2 Z
def Bd (o : Option Int) : Prop := ∀ v, o = some v → 0 ≤ v ∧ v < 10 ^ 40
theorem nice_iO {o : Option Int} (h : Bd o) : Nice 50 200 0 (iO o) := by
  cases o with
  | none => exact nice_non
  | some v =>
    obtain ⟨h0, h1⟩ := h v rfl
    have e1 : (10 : Int) ^ 40 ≤ 10 ^ 50 := by decide
    have e2 : (10 : Int) ^ 40 ≤ 2 ^ 200 := by decide
    exact nice_int h0 (by decide) (Int.lt_of_lt_of_le h1 e1) (Int.lt_of_lt_of_le h1 e2) (by decide) (by decide)
theorem eq_nil {ns : List Int} (h : ∀ v ∈ ns, 0 ≤ v ∧ v < 10 ^ 40) : eqB2 (.lst (ns.map D.int)) (.lst []) = some (decide (ns = [])) := by
  have n1 : Nice 50 ((200 + 1) * (ns.map D.int).length) (0 + 1) (.lst (ns.map D.int)) := nice_lst fun d hd => by
    obtain ⟨v, hv, rfl⟩ := List.mem_map.mp hd
    exact nice_iO (o := some v) fun u e => by cases e; exact h v hv
  obtain ⟨p, e, n⟩ := n1
  have n2 : Nice 50 ((200 + 1) * ([] : List D).length) (0 + 1) (.lst []) := nice_lst fun d hd => by cases hd
  obtain ⟨c, hc, ht⟩ := eqB_nice (d := .lst (ns.map D.int)) (d' := .lst []) ⟨p, e, n⟩ n2 (by decide) (by decide)
  show eqB _ _ = _
  cases ns with
  | nil => rw [hc, ht rfl]; rfl
  | cons a r =>
    rw [hc]
    unfold eqB at hc
    have e0 : D.py (.lst []) = some (.list []) := rfl
    rw [e, e0] at hc
    dsimp only at hc
    split at hc
    · cases hc
      congr 1
      obtain ⟨ps, hps, rfl⟩ := Option.map_eq_some_iff.mp ((by rw [D.py] at e; exact e) : (D.pys ((a :: r).map D.int)).map PyData.list = some p)
      cases ps with
      | nil =>
        rw [List.map_cons, D.pys] at hps
        split at hps <;> cases hps
      | cons x xs => rw [PyData.eqv, PyData.eqvAll]; rfl
    · cases hc
def sumL (row : List (Option Int)) (other : List (List (Option Int))) (j : Nat) : List Int := ((row.zip (colO other j)).map fun p => addO p.1 p.2).filterMap id
theorem addG_eq (row : List (Option Int)) (other : List (List (Option Int))) (j : Nat) : addG row (colO other j) = if sumL row other j = [] then none else some (minL (sumL row other j)) := rfl
section
variable {one other : List (List (Option Int))} {n : Nat} (h1 : one.length = n) (h2 : other.length = n) (r1 : ∀ r ∈ one, r.length = n) (r2 : ∀ r ∈ other, r.length = n) (hb : n < 1000)
  (b1 : ∀ r ∈ one, ∀ o ∈ r, ∀ v, o = some v → 0 ≤ v ∧ v < 10 ^ 39) (b2 : ∀ r ∈ other, ∀ o ∈ r, ∀ v, o = some v → 0 ≤ v ∧ v < 10 ^ 39)
include r1 h2 r2 b1 b2 in
theorem sumL_bd {row : List (Option Int)} (hrow : row ∈ one) {j : Nat} (hj : j < n) : ∀ v ∈ sumL row other j, 0 ≤ v ∧ v < 10 ^ 40 := by
  intro v hv
  obtain ⟨o, ho, e⟩ := List.mem_filterMap.mp hv
  obtain ⟨p, hp, rfl⟩ := List.mem_map.mp ho
  obtain ⟨m1, m2⟩ := List.of_mem_zip hp
  obtain ⟨r, hr, e2⟩ := List.mem_map.mp m2
  have hc : p.2 ∈ r := by
    rw [← e2, List.getD_eq_getElem?_getD, List.getElem?_eq_getElem (by rw [r2 r hr]; exact hj)]
    exact List.getElem_mem _
  have c1 := b1 row hrow p.1 m1
  have c2 := b2 r hr p.2 hc
  obtain ⟨a, b⟩ := p
  cases a with
  | none => cases e
  | some a => cases b with
    | none => cases e
    | some b =>
      cases e
      have d1 := c1 a rfl
      have d2 := c2 b rfl
      have t : (10 : Int) ^ 40 = 10 * 10 ^ 39 := by decide
      omega
include h2 r1 r2 hb b1 b2 in
theorem cell_ok {row : List (Option Int)} (hrow : row ∈ one) {j : Nat} (hj : j < n) (o3 o5 : Option W) (o7 : Option W) (st : List Cell) :
    setC 7 (frN (lcM (rngI1 (consA (vM 2) nilA)) (bName 8) (Z.andM (mNt true (ixM (vM 4) (vM 8))) (mNt true (ixM (ixM (vM 1) (vM 8)) (vM 6)))) (bM (ixM (vM 4) (vM 8)) (ixM (ixM (vM 1) (vM 8)) (vM 6)) (op2 addD)) [8]))
      ⟨[some (.fr (lstM' (rowsD one))), some (.fr (lstM' (rowsD other))), some (.fr (.int n)), o3, some (.fr (.lst (row.map iO))), o5, some (.fr (.int (j : Nat))), o7, none], st⟩
    = .nx ⟨[some (.fr (lstM' (rowsD one))), some (.fr (lstM' (rowsD other))), some (.fr (.int n)), o3, some (.fr (.lst (row.map iO))), o5, some (.fr (.int (j : Nat))), some (.fr (.lst ((sumL row other j).map D.int))), none], st⟩ := by
  let E : List (Option W) := [some (.fr (lstM' (rowsD one))), some (.fr (lstM' (rowsD other))), some (.fr (.int n)), o3, some (.fr (.lst (row.map iO))), o5, some (.fr (.int (j : Nat))), o7, none]
  have hz := zip_range (j := j) (r1 row hrow) h2
  have hi : rngI1 (consA (vM 2) nilA) ⟨E, st⟩ = .ok (.fx ((List.range n).map fun i => W.fr (.int (i : Nat)))) ⟨E, st⟩ := by
    rw [← rngW_eq]
    exact rngI1_ok (by simp [startS_eq, rtC, setC, drC, ifC, parC, asgC, put, then_ok', toS_ok, bM, vM_eq, cM, op2, consA, nilA, cbM, g1, g2, view_fr, iop_int, asB_bl, mN, mNt, isN_non, isN_int, isN_lst, ifM, Z.orM, Z.andM, Z.notM, andV, orV, notV, trM, truW_fr, truD, ixM, ixW_fr, ixD, callM, callW, gLen, lenW_fr, lenD, frN, frLst, loN, loLst, lstM, tupM, frzA, fzM, frz1_fr, isM, gIs, tyW_fr, tyD, isTy, addD_int, eqG_int, List.map, List.length, List.cons_append, List.nil_append, List.append_nil, List.getElem?_cons_zero, List.getElem?_cons_succ, List.set_cons_zero, List.set_cons_succ, List.replicate, E]) (by omega)
  have e := lcM_pureG (mi := rngI1 (consA (vM 2) nilA)) (bd := bName 8) (mt := Z.andM (mNt true (ixM (vM 4) (vM 8))) (mNt true (ixM (ixM (vM 1) (vM 8)) (vM 6)))) (me := bM (ixM (vM 4) (vM 8)) (ixM (ixM (vM 1) (vM 8)) (vM 6)) (op2 addD)) (vs := [8]) (s := ⟨E, st⟩) (s0 := ⟨E, st⟩) (xs := List.range n) (fun i => W.fr (.int (i : Nat)))
    (fun k => (addO (row.getD k none) ((other.getD k []).getD j none)).map fun v => W.fr (.int v)) hi (by rw [List.length_range, small24]; omega) (fun k hk => by
      have hk := List.mem_range.mp hk
      let E8 := E.set 8 (some (.fr (.int (k : Nat))))
      refine ⟨⟨E8, st⟩, rfl, ?_⟩
      have a1 := atI_row (r := row) (j := k) (by rw [r1 row hrow]; exact hk)
      have a2 := ix_mat (other := other) (k := k) (by omega)
      have hmem : other.getD k [] ∈ other := by
        rw [List.getD_eq_getElem?_getD, List.getElem?_eq_getElem (by omega : k < other.length)]
        exact List.getElem_mem _
      have a3 := atI_row (r := other.getD k []) (j := j) (by rw [r2 _ hmem]; exact hj)
      have i1 : ixM (vM 4) (vM 8) ⟨E8, st⟩ = .ok (.fr (iO (row.getD k none))) ⟨E8, st⟩ := by simp only [startS_eq, rtC, setC, drC, ifC, parC, asgC, put, then_ok', toS_ok, bM, vM_eq, cM, op2, consA, nilA, cbM, g1, g2, view_fr, iop_int, asB_bl, mN, mNt, isN_non, isN_int, isN_lst, ifM, Z.orM, Z.andM, Z.notM, andV, orV, notV, trM, truW_fr, truD, ixM, ixW_fr, ixD, callM, callW, gLen, lenW_fr, lenD, frN, frLst, loN, loLst, lstM, tupM, frzA, fzM, frz1_fr, isM, gIs, tyW_fr, tyD, isTy, addD_int, eqG_int, List.map, List.length, List.cons_append, List.nil_append, List.append_nil, List.getElem?_cons_zero, List.getElem?_cons_succ, List.set_cons_zero, List.set_cons_succ, List.replicate, E8, E, a1, Option.map]
      have i2 : ixM (ixM (vM 1) (vM 8)) (vM 6) ⟨E8, st⟩ = .ok (.fr (iO ((other.getD k []).getD j none))) ⟨E8, st⟩ := by simp only [startS_eq, rtC, setC, drC, ifC, parC, asgC, put, then_ok', toS_ok, bM, vM_eq, cM, op2, consA, nilA, cbM, g1, g2, view_fr, iop_int, asB_bl, mN, mNt, isN_non, isN_int, isN_lst, ifM, Z.orM, Z.andM, Z.notM, andV, orV, notV, trM, truW_fr, truD, ixM, ixW_fr, ixD, callM, callW, gLen, lenW_fr, lenD, frN, frLst, loN, loLst, lstM, tupM, frzA, fzM, frz1_fr, isM, gIs, tyW_fr, tyD, isTy, addD_int, eqG_int, List.map, List.length, List.cons_append, List.nil_append, List.append_nil, List.getElem?_cons_zero, List.getElem?_cons_succ, List.set_cons_zero, List.set_cons_succ, List.replicate, E8, E, a2, a3, Option.map]
      revert i1 i2
      generalize row.getD k none = a
      generalize (other.getD k []).getD j none = b
      intro i1 i2
      cases a with
      | none => exact .inl ⟨⟨E8, st⟩, by simp only [Z.andM, mNt, i1, then_ok', iO, isN_non]; rfl, rfl, rfl⟩
      | some a => cases b with
        | none => exact .inl ⟨⟨E8, st⟩, by simp only [Z.andM, mNt, i1, i2, then_ok', iO, isN_non, isN_int]; rfl, rfl, rfl⟩
        | some b => exact .inr ⟨⟨E8, st⟩, W.fr (.int (a + b)), ⟨E8, st⟩, by simp only [Z.andM, mNt, i1, i2, then_ok', iO, isN_non, isN_int]; rfl, by simp only [bM, i1, i2, then_ok', op2, iO, view_fr, addD_int], rfl, rfl⟩)
  have fin : (List.range n).filterMap (fun k => (addO (row.getD k none) ((other.getD k []).getD j none)).map fun v => W.fr (.int v)) = ((sumL row other j).map D.int).map W.fr := by
    unfold sumL
    rw [hz, List.map_map, List.filterMap_map, List.map_filterMap, List.filterMap_map]
    rfl
  rw [fin] at e
  have e' := setC_ok (i := 7) (frN_eq e)
  exact e'
include h2 r1 r2 hb b1 b2 in
theorem item_ok {row : List (Option Int)} (hrow : row ∈ one) {j : Nat} (hj : j < n) (env : List (Option W)) (he : env[7]? = some (some (.fr (.lst ((sumL row other j).map D.int))))) (st : List Cell) :
    ifM (fun s => asB ((bM (vM 7) (frN (lstM nilA)) (eqG true)) s)) (cbM (g1 minD) (consA (vM 7) nilA)) (cM .non) ⟨env, st⟩ = .ok (.fr (iO (addG row (colO other j)))) ⟨env, st⟩ := by
  have v7 : vM 7 ⟨env, st⟩ = .ok (.fr (.lst ((sumL row other j).map D.int))) ⟨env, st⟩ := vM_ok he
  have e0 : frN (lstM nilA) ⟨env, st⟩ = .ok (.fr (.lst [])) ⟨env, st⟩ := frN_eq (ds := []) (by simp [startS_eq, rtC, setC, drC, ifC, parC, asgC, put, then_ok', toS_ok, bM, vM_eq, cM, op2, consA, nilA, cbM, g1, g2, view_fr, iop_int, asB_bl, mN, mNt, isN_non, isN_int, isN_lst, ifM, Z.orM, Z.andM, Z.notM, andV, orV, notV, trM, truW_fr, truD, ixM, ixW_fr, ixD, callM, callW, gLen, lenW_fr, lenD, frN, frLst, loN, loLst, lstM, tupM, frzA, fzM, frz1_fr, isM, gIs, tyW_fr, tyD, isTy, addD_int, eqG_int, List.map, List.length, List.cons_append, List.nil_append, List.append_nil, List.getElem?_cons_zero, List.getElem?_cons_succ, List.set_cons_zero, List.set_cons_succ, List.replicate])
  have eq := eq_nil (sumL_bd h2 r1 r2 b1 b2 hrow hj)
  have eg : eqG true ⟨env, st⟩ (.fr (.lst ((sumL row other j).map D.int))) (.fr (.lst [])) = .ok (.fr (.bl (!decide (sumL row other j = [])))) ⟨env, st⟩ := by
    unfold eqG
    rw [show deep ⟨env, st⟩ (.fr (.lst ((sumL row other j).map D.int))) = some (.lst ((sumL row other j).map D.int)) from rfl, show deep ⟨env, st⟩ (.fr (.lst [])) = some (.lst []) from rfl]
    dsimp only
    rw [eq]
    rfl
  unfold ifM
  dsimp only
  rw [show bM (vM 7) (frN (lstM nilA)) (eqG true) ⟨env, st⟩ = .ok (.fr (.bl (!decide (sumL row other j = [])))) ⟨env, st⟩ from by unfold bM; rw [v7, then_ok', e0, then_ok', eg], asB_bl, then_ok', addG_eq]
  by_cases hz : sumL row other j = []
  · rw [hz]
    rfl
  · rw [if_pos (by simp [hz]), if_neg hz, cbM_ok (args1 v7)]
    unfold g1
    dsimp only
    rw [view_fr]
    dsimp only
    unfold minD lstI
    dsimp only
    rw [allI_map]
    dsimp only
    rw [if_neg hz]
    rfl
include h1 h2 r1 r2 hb b1 b2 in
theorem sums_ok {st : List Cell} (hcl : Closed st) : e__law_sums [.fr (lstM' (rowsD one)), .fr (lstM' (rowsD other))] st = .ok (.fr (lstM' (rowsD (tabO addG one other n)))) st := by
  let A := lstM' (rowsD one)
  let B := lstM' (rowsD other)
  let res := fun row : List (Option Int) => (List.range n).map fun j => addG row (colO other j)
  let E : Option W → Option W → Option W → Option W → List (Option W) := fun a b c d => [some (.fr A), some (.fr B), some (.fr (.int n)), some (.loc st.length), a, b, c, d, none]
  -- one line
  have line : ∀ row ∈ one, ∀ (base : List Cell) (o6 o7 : Option W), ∃ o6' o7', forC (rngI1 (consA (vM 2) nilA)) (bName 6) (seqC (setC 7 (frN (lcM (rngI1 (consA (vM 2) nilA)) (bName 8) (Z.andM (mNt true (ixM (vM 4) (vM 8))) (mNt true (ixM (ixM (vM 1) (vM 8)) (vM 6)))) (bM (ixM (vM 4) (vM 8)) (ixM (ixM (vM 1) (vM 8)) (vM 6)) (op2 addD)) [8])))
      (appC (vM 5) (ifM (fun s => asB ((bM (vM 7) (frN (lstM nilA)) (eqG true)) s)) (cbM (g1 minD) (consA (vM 7) nilA)) (cM .non)))) ⟨E (some (.fr (.lst (row.map iO)))) (some (.loc base.length)) o6 o7, base ++ [.lst []]⟩
      = .nx ⟨E (some (.fr (.lst (row.map iO)))) (some (.loc base.length)) o6' o7', base ++ [.lst ((res row).map fun o => W.fr (iO o))]⟩ := by
    intro row hrow base o6 o7
    have hi : rngI1 (consA (vM 2) nilA) ⟨E (some (.fr (.lst (row.map iO)))) (some (.loc base.length)) o6 o7, base ++ [.lst []]⟩ = .ok (.fx (rngW n)) ⟨E (some (.fr (.lst (row.map iO)))) (some (.loc base.length)) o6 o7, base ++ [.lst []]⟩ := rngI1_ok (by simp [startS_eq, rtC, setC, drC, ifC, parC, asgC, put, then_ok', toS_ok, bM, vM_eq, cM, op2, consA, nilA, cbM, g1, g2, view_fr, iop_int, asB_bl, mN, mNt, isN_non, isN_int, isN_lst, ifM, Z.orM, Z.andM, Z.notM, andV, orV, notV, trM, truW_fr, truD, ixM, ixW_fr, ixD, callM, callW, gLen, lenW_fr, lenD, frN, frLst, loN, loLst, lstM, tupM, frzA, fzM, frz1_fr, isM, gIs, tyW_fr, tyD, isTy, addD_int, eqG_int, List.map, List.length, List.cons_append, List.nil_append, List.append_nil, List.getElem?_cons_zero, List.getElem?_cons_succ, List.set_cons_zero, List.set_cons_succ, List.replicate, E]) (by omega)
    have loop := forF_inv (ws := rngW n) (bd := bName 6) (c := seqC (setC 7 (frN (lcM (rngI1 (consA (vM 2) nilA)) (bName 8) (Z.andM (mNt true (ixM (vM 4) (vM 8))) (mNt true (ixM (ixM (vM 1) (vM 8)) (vM 6)))) (bM (ixM (vM 4) (vM 8)) (ixM (ixM (vM 1) (vM 8)) (vM 6)) (op2 addD)) [8])))
      (appC (vM 5) (ifM (fun s => asB ((bM (vM 7) (frN (lstM nilA)) (eqG true)) s)) (cbM (g1 minD) (consA (vM 7) nilA)) (cM .non))))
      (s := ⟨E (some (.fr (.lst (row.map iO)))) (some (.loc base.length)) o6 o7, base ++ [.lst []]⟩)
      (fun i s => ∃ o6' o7', s = ⟨E (some (.fr (.lst (row.map iO)))) (some (.loc base.length)) o6' o7', base ++ [.lst (((List.range i).map fun j => addG row (colO other j)).map fun o => W.fr (iO o))]⟩)
      ⟨o6, o7, rfl⟩ (by
        rintro i w _ hw ⟨p6, p7, rfl⟩
        have hlt := (List.getElem?_eq_some_iff.mp hw).1
        rw [rngW_length] at hlt
        have hwi : w = .fr (.int (i : Nat)) := by
          rw [rngW_eq, List.getElem?_map, List.getElem?_range hlt] at hw
          exact (Option.some.inj hw).symm
        subst hwi
        have c1 := cell_ok h2 r1 r2 hb b1 b2 hrow hlt (some (.loc st.length)) (some (.loc base.length)) p7 (base ++ [.lst (((List.range i).map fun j => addG row (colO other j)).map fun o => W.fr (iO o))])
        refine ⟨_, ⟨E (some (.fr (.lst (row.map iO)))) (some (.loc base.length)) (some (.fr (.int (i : Nat)))) (some (.fr (.lst ((sumL row other i).map D.int)))), base ++ [.lst (((List.range (i + 1)).map fun j => addG row (colO other j)).map fun o => W.fr (iO o))]⟩, rfl, .inl ?_, _, _, rfl⟩
        refine (seqC_nx c1).trans ?_
        have it := item_ok h2 r1 r2 hb b1 b2 hrow hlt (E (some (.fr (.lst (row.map iO)))) (some (.loc base.length)) (some (.fr (.int (i : Nat)))) (some (.fr (.lst ((sumL row other i).map D.int))))) rfl (base ++ [.lst (((List.range i).map fun j => addG row (colO other j)).map fun o => W.fr (iO o))])
        have g := cells_app (st := base) (x := Cell.lst (((List.range i).map fun j => addG row (colO other j)).map fun o => W.fr (iO o))) rfl
        refine (appC_ok (k := base.length) (s1 := ⟨E (some (.fr (.lst (row.map iO)))) (some (.loc base.length)) (some (.fr (.int (i : Nat)))) (some (.fr (.lst ((sumL row other i).map D.int)))), base ++ [.lst (((List.range i).map fun j => addG row (colO other j)).map fun o => W.fr (iO o))]⟩) rfl g it g (by rw [List.length_map, List.length_map, List.length_range, small24]; omega)).trans ?_
        rw [cells_set rfl, List.range_succ]
        simp)
    obtain ⟨s', q, o6', o7', rfl⟩ := loop
    rw [rngW_length] at q
    exact ⟨o6', o7', forC_ok hi q⟩
  have outer := forF_inv (ws := one.map fun r => W.fr (.lst (r.map iO))) (bd := bName 4) (c := seqC (setC 5 (loN (lstM nilA)))
    (seqC (forC (rngI1 (consA (vM 2) nilA)) (bName 6) (seqC (setC 7 (frN (lcM (rngI1 (consA (vM 2) nilA)) (bName 8) (Z.andM (mNt true (ixM (vM 4) (vM 8))) (mNt true (ixM (ixM (vM 1) (vM 8)) (vM 6)))) (bM (ixM (vM 4) (vM 8)) (ixM (ixM (vM 1) (vM 8)) (vM 6)) (op2 addD)) [8])))
      (appC (vM 5) (ifM (fun s => asB ((bM (vM 7) (frN (lstM nilA)) (eqG true)) s)) (cbM (g1 minD) (consA (vM 7) nilA)) (cM .non)))))
    (appC (vM 3) (fzM (vM 5)))))
    (s := ⟨E none none none none, st ++ [.lst []] ++ []⟩)
    (fun i s => ∃ o4 o5 o6 o7 G, s = ⟨E o4 o5 o6 o7, st ++ [.lst ((one.take i).map fun r => W.fr (.lst ((res r).map iO)))] ++ G⟩)
    ⟨none, none, none, none, [], by simp⟩ (by
      rintro i w _ hw ⟨o4, o5, o6, o7, G, rfl⟩
      have hlt := (List.getElem?_eq_some_iff.mp hw).1
      rw [List.length_map] at hlt
      have hwi : w = .fr (.lst (one[i].map iO)) := by
        rw [List.getElem?_map, List.getElem?_eq_getElem hlt] at hw
        exact (Option.some.inj hw).symm
      subst hwi
      have hrow : one[i] ∈ one := List.getElem_mem hlt
      let base := st ++ [Cell.lst ((one.take i).map fun r => W.fr (.lst ((res r).map iO)))] ++ G
      obtain ⟨o6', o7', q⟩ := line one[i] hrow base o6 o7
      have f5 : setC 5 (loN (lstM nilA)) ⟨E (some (.fr (.lst (one[i].map iO)))) o5 o6 o7, base⟩ = .nx ⟨E (some (.fr (.lst (one[i].map iO)))) (some (.loc base.length)) o6 o7, base ++ [.lst []]⟩ := by
        simp [startS_eq, rtC, setC, drC, ifC, parC, asgC, put, then_ok', toS_ok, bM, vM_eq, cM, op2, consA, nilA, cbM, g1, g2, view_fr, iop_int, asB_bl, mN, mNt, isN_non, isN_int, isN_lst, ifM, Z.orM, Z.andM, Z.notM, andV, orV, notV, trM, truW_fr, truD, ixM, ixW_fr, ixD, callM, callW, gLen, lenW_fr, lenD, frN, frLst, loN, loLst, lstM, tupM, frzA, fzM, frz1_fr, isM, gIs, tyW_fr, tyD, isTy, addD_int, eqG_int, List.map, List.length, List.cons_append, List.nil_append, List.append_nil, List.getElem?_cons_zero, List.getElem?_cons_succ, List.set_cons_zero, List.set_cons_succ, List.replicate, E]
      refine ⟨_, ⟨E (some (.fr (.lst (one[i].map iO)))) (some (.loc base.length)) o6' o7', st ++ [.lst ((one.take (i + 1)).map fun r => W.fr (.lst ((res r).map iO)))] ++ (G ++ [.frz (.lst ((res one[i]).map iO))])⟩, rfl, .inl ?_, _, _, _, _, _, rfl⟩
      refine (seqC_nx f5).trans ((seqC_nx q).trans ?_)
      have em : ((res one[i]).map fun o => W.fr (iO o)) = ((res one[i]).map iO).map W.fr := (List.map_map (f := iO) (g := W.fr) (l := res one[i])).symm
      rw [em]
      have gz : frz1 (.loc base.length) ⟨E (some (.fr (.lst (one[i].map iO)))) (some (.loc base.length)) o6' o7', base ++ [.lst (((res one[i]).map iO).map W.fr)]⟩ = .ok (.lst ((res one[i]).map iO)) ⟨E (some (.fr (.lst (one[i].map iO)))) (some (.loc base.length)) o6' o7', base ++ [.frz (.lst ((res one[i]).map iO))]⟩ := by
        rw [frz1_lst (cells_app rfl), cells_set rfl]
      have me : fzM (vM 5) ⟨E (some (.fr (.lst (one[i].map iO)))) (some (.loc base.length)) o6' o7', base ++ [.lst (((res one[i]).map iO).map W.fr)]⟩ = .ok (.fr (.lst ((res one[i]).map iO))) ⟨E (some (.fr (.lst (one[i].map iO)))) (some (.loc base.length)) o6' o7', base ++ [.frz (.lst ((res one[i]).map iO))]⟩ := by
        unfold fzM
        rw [show vM 5 ⟨E (some (.fr (.lst (one[i].map iO)))) (some (.loc base.length)) o6' o7', base ++ [.lst (((res one[i]).map iO).map W.fr)]⟩ = .ok (.loc base.length) ⟨E (some (.fr (.lst (one[i].map iO)))) (some (.loc base.length)) o6' o7', base ++ [.lst (((res one[i]).map iO).map W.fr)]⟩ from rfl, then_ok', gz, then_ok']
      have mg : ∀ (x : Cell) (G : List Cell), (st ++ [x] ++ G)[st.length]? = some x := fun x G => by simp
      have ms : ∀ (x y : Cell) (G : List Cell), (st ++ [x] ++ G).set st.length y = st ++ [y] ++ G := fun x y G => by simp
      refine (appC_ok (k := st.length) (s1 := ⟨E (some (.fr (.lst (one[i].map iO)))) (some (.loc base.length)) o6' o7', base ++ [.lst (((res one[i]).map iO).map W.fr)]⟩) rfl (by show (base ++ _)[st.length]? = _; rw [List.append_assoc]; exact mg _ _) me (by show (base ++ _)[st.length]? = _; rw [List.append_assoc]; exact mg _ _) (by rw [List.length_map, List.length_take, small24]; omega)).trans ?_
      have key : (base ++ [Cell.frz (.lst ((res one[i]).map iO))]).set st.length (.lst (((one.take i).map fun r => W.fr (.lst ((res r).map iO))) ++ [W.fr (.lst ((res one[i]).map iO))])) = st ++ [.lst ((one.take (i + 1)).map fun r => W.fr (.lst ((res r).map iO)))] ++ (G ++ [.frz (.lst ((res one[i]).map iO))]) := by
        rw [show base ++ [Cell.frz (.lst ((res one[i]).map iO))] = st ++ [Cell.lst ((one.take i).map fun r => W.fr (.lst ((res r).map iO)))] ++ (G ++ [Cell.frz (.lst ((res one[i]).map iO))]) from List.append_assoc _ _ _, ms, List.take_succ_eq_append_getElem hlt, List.map_append]
        rfl
      exact congrArg (fun z => RS.nx ⟨E (some (.fr (.lst (one[i].map iO)))) (some (.loc base.length)) o6' o7', z⟩) key)
  obtain ⟨s', q, o4, o5, o6, o7, G, rfl⟩ := outer
  rw [List.length_map, List.take_length] at q
  have p1 : parC 2 3 (consA (cbM gLen (consA (vM 0) nilA)) (consA (loN (lstM nilA)) nilA)) (startS 9 [.fr A, .fr B] st) = .nx ⟨E none none none none, st ++ [.lst []] ++ []⟩ := by
    simp [startS_eq, rtC, setC, drC, ifC, parC, asgC, put, then_ok', toS_ok, bM, vM_eq, cM, op2, consA, nilA, cbM, g1, g2, view_fr, iop_int, asB_bl, mN, mNt, isN_non, isN_int, isN_lst, ifM, Z.orM, Z.andM, Z.notM, andV, orV, notV, trM, truW_fr, truD, ixM, ixW_fr, ixD, callM, callW, gLen, lenW_fr, lenD, frN, frLst, loN, loLst, lstM, tupM, frzA, fzM, frz1_fr, isM, gIs, tyW_fr, tyD, isTy, addD_int, eqG_int, List.map, List.length, List.cons_append, List.nil_append, List.append_nil, List.getElem?_cons_zero, List.getElem?_cons_succ, List.set_cons_zero, List.set_cons_succ, List.replicate, E, A, h1]
  let S0 : S := ⟨E none none none none, st ++ [Cell.lst []] ++ []⟩
  have i1 : seqI (vM 0) S0 = .ok (.fx (one.map fun r => W.fr (.lst (r.map iO)))) S0 := by
    rw [seqI_fr (m := vM 0) (s := S0) (s0 := S0) (d := A) (ds := (rowsD one).map D.lst) rfl rfl, List.map_map, List.map_map]; rfl
  have hm : (one.map fun r => W.fr (.lst ((res r).map iO))) = ((rowsD (tabO addG one other n)).map D.lst).map W.fr := by
    unfold rowsD tabO
    rw [List.map_map, List.map_map, List.map_map]
    rfl
  rw [hm] at q
  have e4 : rtC (fzM (vM 3)) ⟨E o4 o5 o6 o7, st ++ [.lst (((rowsD (tabO addG one other n)).map D.lst).map W.fr)] ++ G⟩ = .rt (.fr (lstM' (rowsD (tabO addG one other n)))) ⟨E o4 o5 o6 o7, st ++ ([.frz (lstM' (rowsD (tabO addG one other n)))] ++ G)⟩ := by
    refine rtC_ok ?_
    have g0 : (st ++ [Cell.lst (((rowsD (tabO addG one other n)).map D.lst).map W.fr)] ++ G)[st.length]? = some (Cell.lst (((rowsD (tabO addG one other n)).map D.lst).map W.fr)) := by
      generalize Cell.lst (((rowsD (tabO addG one other n)).map D.lst).map W.fr) = x
      simp
    have ms0 : ∀ (x y : Cell) (G : List Cell), (st ++ [x] ++ G).set st.length y = st ++ [y] ++ G := fun x y G => by simp
    unfold fzM
    rw [show vM 3 ⟨E o4 o5 o6 o7, st ++ [.lst (((rowsD (tabO addG one other n)).map D.lst).map W.fr)] ++ G⟩ = .ok (.loc st.length) ⟨E o4 o5 o6 o7, st ++ [.lst (((rowsD (tabO addG one other n)).map D.lst).map W.fr)] ++ G⟩ from rfl, then_ok', frz1_lst (ds := (rowsD (tabO addG one other n)).map D.lst) g0, then_ok', ms0, List.append_assoc]
  unfold e__law_sums runZ c__law_sums
  rw [seqC_nx p1, seqC_nx (forC_ok i1 q), e4]
  exact cut_app hcl rfl
end
end K35
namespace K35
open PySem PySem.Spec PyProof.Rows L2 Z
/-! a fresh table of lists -/
def nestW (st : List Cell) (ws : List (List W)) : List Cell := st ++ ws.map Cell.lst ++ [rootC st.length ws.length]
abbrev ent (rows : List (List (Option Int))) : List (List W) := rows.map fun r => r.map fun o => W.fr (iO o)
theorem nestC_eq (st : List Cell) (rows : List (List (Option Int))) : nestC st rows = nestW st (ent rows) := by
  unfold nestC nestW
  rw [List.map_map, List.length_map]
  rfl
theorem nest_len (st : List Cell) (ws : List (List W)) : (nestW st ws).length = st.length + ws.length + 1 := by simp [nestW]; omega
theorem nest_root (st : List Cell) (ws : List (List W)) : (nestW st ws)[st.length + ws.length]? = some (rootC st.length ws.length) := by
  unfold nestW
  exact cells_app (by simp)
theorem nest_row {st : List Cell} {ws : List (List W)} {i : Nat} (h : i < ws.length) : (nestW st ws)[st.length + i]? = some (.lst ws[i]) := by
  unfold nestW
  rw [List.append_assoc, List.getElem?_append_right (by omega), List.getElem?_append_left (by simp; omega)]
  rw [show st.length + i - st.length = i by omega, List.getElem?_map, List.getElem?_eq_getElem h]
  rfl
theorem nest_set {st : List Cell} {ws : List (List W)} {i : Nat} (h : i < ws.length) (y : List W) : (nestW st ws).set (st.length + i) (.lst y) = nestW st (ws.set i y) := by
  unfold nestW
  rw [List.append_assoc, List.set_append_right _ _ (by omega), List.set_append_left _ _ (by simp; omega)]
  rw [show st.length + i - st.length = i by omega, List.append_assoc, List.length_set, List.map_set]
theorem nest_closed {st : List Cell} {ws : List (List W)} (h : Closed st) (hw : ∀ w ∈ ws, ∃ ds : List D, w = ds.map W.fr) : Closed (nestW st ws) := by
  unfold nestW
  have h1 : Closed (st ++ ws.map Cell.lst) := by
    unfold Closed at h ⊢
    rw [List.all_append, Bool.and_eq_true]
    refine ⟨?_, ?_⟩
    · rw [List.all_eq_true] at h ⊢
      intro c hc
      have := h c hc
      rw [List.all_eq_true] at this ⊢
      exact fun w hw => fitW_up (by simp) (this w hw)
    · rw [List.all_eq_true]
      intro c hc
      obtain ⟨w, hw', rfl⟩ := List.mem_map.mp hc
      obtain ⟨ds, rfl⟩ := hw w hw'
      exact fits_fr _ ds
  refine h1.app ?_
  show ((List.range ws.length).map fun i => W.loc (st.length + i)).all _ = true
  rw [List.all_eq_true]
  intro w hw
  obtain ⟨i, hi, rfl⟩ := List.mem_map.mp hw
  have := List.mem_range.mp hi
  show decide _ = true
  exact decide_eq_true (by rw [List.length_append, List.length_map]; omega)
theorem deepL_map {α : Type} {f : W → Option D} (e : α → W) (g : α → D) : ∀ {xs : List α}, (∀ x ∈ xs, f (e x) = some (g x)) → deepL f (xs.map e) = some (xs.map g)
  | [], _ => rfl
  | x :: xs, h => by
    rw [List.map_cons, deepL, h x List.mem_cons_self, deepL_map e g (xs := xs) fun y hy => h y (List.mem_cons_of_mem _ hy)]
    rfl
theorem nest_deep (env : List (Option W)) (st : List Cell) (dss : List (List D)) : deep ⟨env, nestW st (dss.map fun ds => ds.map W.fr)⟩ (.loc (st.length + dss.length)) = some (lstM' dss) := by
  have hl : (dss.map fun ds => ds.map W.fr).length = dss.length := List.length_map _
  have hr := nest_root st (dss.map fun ds => ds.map W.fr)
  rw [hl] at hr
  show deepN _ (7 + 1) _ = _
  unfold deepN
  dsimp only
  rw [hr]
  show Option.map D.lst (deepL _ ((List.range dss.length).map fun i => W.loc (st.length + i))) = _
  rw [deepL_map (fun i => W.loc (st.length + i)) (fun i => D.lst (dss.getD i []))]
  · show some (D.lst _) = some (D.lst _)
    congr 2
    refine List.ext_getElem? fun i => ?_
    rw [List.getElem?_map, List.getElem?_map]
    by_cases hi : i < dss.length
    · rw [List.getElem?_range hi, List.getElem?_eq_getElem hi]
      show some (D.lst (dss.getD i [])) = some (D.lst dss[i])
      rw [List.getD_eq_getElem?_getD, List.getElem?_eq_getElem hi]
      rfl
    · rw [List.getElem?_eq_none (by rw [List.length_range]; omega), List.getElem?_eq_none (by omega)]
      rfl
  · intro i hi
    have hi := List.mem_range.mp hi
    have hrow := nest_row (st := st) (ws := dss.map fun ds => ds.map W.fr) (i := i) (by rw [hl]; exact hi)
    rw [List.getElem_map] at hrow
    show deepN _ (6 + 1) _ = _
    unfold deepN
    dsimp only
    rw [hrow]
    show Option.map D.lst (deepL _ (dss[i].map W.fr)) = _
    rw [deepL_map W.fr id (fun d _ => rfl), List.getD_eq_getElem?_getD, List.getElem?_eq_getElem hi]
    simp
theorem ent_eq (rows : List (List (Option Int))) : ent rows = (rowsD rows).map fun ds => ds.map W.fr := by
  unfold ent rowsD
  rw [List.map_map]
  refine List.map_congr_left fun r _ => ?_
  show _ = (r.map iO).map W.fr
  rw [List.map_map]
  rfl
/-- every row is made longer -/
theorem longer_ok {i j : Nat} {c : Int} {st : List Cell} {ws : List (List W)} {env : List (Option W)} (hi : env[i]? = some (some (.loc (st.length + ws.length)))) (hij : i ≠ j) (hj : j < env.length) (hl : ∀ w ∈ ws, w.length < 1000) :
    ∃ o, forC (seqI (vM i)) (bName j) (appC (vM j) (cM (.int c))) ⟨env, nestW st ws⟩ = .nx ⟨env.set j o, nestW st (ws.map fun w => w ++ [.fr (.int c)])⟩ ∧ (ws = [] → o = env.getD j none) := by
  have hv : ∀ (o : Option W) (st' : List Cell), vM i ⟨env.set j o, st'⟩ = .ok (.loc (st.length + ws.length)) ⟨env.set j o, st'⟩ := fun o st' => vM_ok (by rw [List.getElem?_set_ne (Ne.symm hij)]; exact hi)
  have hs : seqI (vM i) ⟨env, nestW st ws⟩ = .ok (.lv (st.length + ws.length)) ⟨env, nestW st ws⟩ := by
    unfold seqI
    rw [vM_ok hi, then_ok']
    unfold srcW
    dsimp only
    rw [nest_root]
    rfl
  have hj0 : env = env.set j (env.getD j none) := by
    refine List.ext_getElem? fun k => ?_
    by_cases hk : k = j
    · subst hk
      rw [List.getElem?_set_self hj, List.getD_eq_getElem?_getD, List.getElem?_eq_getElem hj]
      rfl
    · rw [List.getElem?_set_ne (Ne.symm hk)]
  obtain ⟨s', q, o, hs', ho⟩ := forF_lv (k := st.length + ws.length) (ws0 := (List.range ws.length).map fun i => W.loc (st.length + i)) (bd := bName j) (c := appC (vM j) (cM (.int c))) (s := ⟨env, nestW st ws⟩)
    (fun m s => ∃ o, s = ⟨env.set j o, nestW st ((ws.take m).map (fun w => w ++ [W.fr (.int c)]) ++ ws.drop m)⟩ ∧ (m = 0 → o = env.getD j none))
    (nest_root st ws) ⟨env.getD j none, by rw [← hj0]; simp, fun _ => rfl⟩
    (by
      rintro m _ ⟨o, rfl, _⟩
      have hl2 : ((ws.take m).map (fun w => w ++ [W.fr (.int c)]) ++ ws.drop m).length = ws.length := by simp; omega
      refine ⟨_, ?_, rfl⟩
      have := nest_root st ((ws.take m).map (fun w => w ++ [W.fr (.int c)]) ++ ws.drop m)
      rw [hl2] at this
      exact this)
    (by
      rintro m w _ us hus hw ⟨o, rfl, _⟩
      have hl2 : ((ws.take m).map (fun w => w ++ [W.fr (.int c)]) ++ ws.drop m).length = ws.length := by simp; omega
      have hr := nest_root st ((ws.take m).map (fun w => w ++ [W.fr (.int c)]) ++ ws.drop m)
      rw [hl2] at hr
      have e1 : us = (List.range ws.length).map fun i => W.loc (st.length + i) := by
        have := Option.some.inj (hus.symm.trans hr)
        exact Cell.lst.inj this
      subst e1
      have hm : m < ws.length := by
        have := (List.getElem?_eq_some_iff.mp hw).1
        simpa using this
      have hwm : w = .loc (st.length + m) := by
        rw [List.getElem?_map, List.getElem?_range hm] at hw
        exact (Option.some.inj hw).symm
      subst hwm
      refine ⟨_, ⟨env.set j (some (.loc (st.length + m))), nestW st ((ws.take (m + 1)).map (fun w => w ++ [W.fr (.int c)]) ++ ws.drop (m + 1))⟩, rfl, .inl ?_, _, rfl, fun z => by cases z⟩
      have hgl : m < ((ws.take m).map (fun w => w ++ [W.fr (.int c)]) ++ ws.drop m).length := by rw [hl2]; exact hm
      have hrow := nest_row (st := st) hgl
      have hel : ((ws.take m).map (fun w => w ++ [W.fr (.int c)]) ++ ws.drop m)[m] = ws[m] := by
        have hmin : min m ws.length = m := Nat.min_eq_left (Nat.le_of_lt hm)
        rw [List.getElem_append_right (by simp; omega)]
        simp [hmin]
      rw [hel] at hrow
      have hset : (env.set j o).set j (some (.loc (st.length + m))) = env.set j (some (.loc (st.length + m))) := List.set_set ..
      show appC _ _ ⟨(env.set j o).set j (some (.loc (st.length + m))), _⟩ = _
      rw [hset]
      refine (appC_ok (k := st.length + m) (vM_ok (by rw [List.getElem?_set_self hj])) hrow rfl hrow (by have := hl ws[m] (List.getElem_mem _); rw [small24]; omega)).trans ?_
      have key : (nestW st ((ws.take m).map (fun w => w ++ [W.fr (.int c)]) ++ ws.drop m)).set (st.length + m) (.lst (ws[m] ++ [W.fr (.int c)])) = nestW st ((ws.take (m + 1)).map (fun w => w ++ [W.fr (.int c)]) ++ ws.drop (m + 1)) := by
        rw [nest_set hgl]
        congr 1
        rw [List.set_append_right _ _ (by simp; omega), List.take_succ_eq_append_getElem hm, List.map_append, List.append_assoc]
        congr 1
        rw [show m - ((ws.take m).map fun w => w ++ [W.fr (.int c)]).length = 0 by simp; omega, List.drop_eq_getElem_cons hm]
        rfl
      exact congrArg (fun z => RS.nx ⟨env.set j (some (.loc (st.length + m))), z⟩) key)
  refine ⟨o, forC_ok hs ?_, fun z => ho (by rw [z]; rfl)⟩
  rw [q, hs', List.length_map, List.length_range, List.take_length, List.drop_length, List.append_nil]
end K35
namespace K35
open PySem PySem.Spec PyProof.Rows L2 Z
theorem lens_ok {i j : Nat} {st : List Cell} {ws : List (List W)} {env : List (Option W)} (hi : env[i]? = some (some (.loc (st.length + ws.length)))) (hij : i ≠ j) (hj : j < env.length) (hw : ws.length < 1000) :
    frN (lcM (seqI (vM i)) (bName j) yesM (cbM gLen (consA (vM j) nilA)) [j]) ⟨env, nestW st ws⟩ = .ok (.fr (.lst (ws.map fun w => D.int w.length))) ⟨env, nestW st ws⟩ := by
  have hs : seqI (vM i) ⟨env, nestW st ws⟩ = .ok (.lv (st.length + ws.length)) ⟨env, nestW st ws⟩ := by
    unfold seqI
    rw [vM_ok hi, then_ok']
    unfold srcW
    dsimp only
    rw [nest_root]
    rfl
  have e := lcM_mapS (mi := seqI (vM i)) (bd := bName j) (me := cbM gLen (consA (vM j) nilA)) (vs := [j]) (s := ⟨env, nestW st ws⟩) (s0 := ⟨env, nestW st ws⟩) (xs := List.range ws.length) (fun i => W.loc (st.length + i)) (fun m => W.fr (.int (ws.getD m []).length)) hs
    (by unfold Src.len; dsimp only; rw [nest_root]; show ((List.range ws.length).map _).length = _; simp)
    (fun s' m hs' => by unfold Src.get; dsimp only; rw [hs', nest_root]; rfl) (by rw [List.length_range, small24]; omega) (fun m hm => by
      have hm := List.mem_range.mp hm
      have hrow := nest_row (st := st) (ws := ws) hm
      refine ⟨⟨(wipeW env [j]).set j (some (.loc (st.length + m))), nestW st ws⟩, ⟨(wipeW env [j]).set j (some (.loc (st.length + m))), nestW st ws⟩, rfl, ?_, rfl⟩
      refine (cbM_ok (args1 (vM_ok (w := .loc (st.length + m)) (by rw [List.getElem?_set_self (by rw [wipeW_length]; exact hj)])))).trans ?_
      unfold gLen lenW
      dsimp only
      rw [hrow, List.getD_eq_getElem?_getD, List.getElem?_eq_getElem hm]
      rfl)
  refine frN_eq (e.trans ?_)
  congr 1
  refine List.ext_getElem? fun m => ?_
  rw [List.getElem?_map, List.getElem?_map, List.getElem?_map]
  by_cases hm : m < ws.length
  · rw [List.getElem?_range hm, List.getElem?_eq_getElem hm]
    show some (W.fr (D.int (ws.getD m []).length)) = some (W.fr (D.int ws[m].length))
    rw [List.getD_eq_getElem?_getD, List.getElem?_eq_getElem hm]
    rfl
  · rw [List.getElem?_eq_none (by rw [List.length_range]; omega), List.getElem?_eq_none (by omega)]
    rfl
theorem many_ok {env : List (Option W)} {st : List Cell} {n : Nat} (h1 : env[1]? = some (some (.fr (.int n)))) (hn : n < 1000) :
    frN (repN (frN (lstM (consA (bM (vM 1) (cM (.int 1)) (op2 addD)) nilA))) (vM 1)) ⟨env, st⟩ = .ok (.fr (.lst (List.replicate n (.int (n + 1))))) ⟨env, st⟩ := by
  have v1 : vM 1 ⟨env, st⟩ = .ok (.fr (.int n)) ⟨env, st⟩ := vM_ok h1
  have a : frN (lstM (consA (bM (vM 1) (cM (.int 1)) (op2 addD)) nilA)) ⟨env, st⟩ = .ok (.fr (.lst [.int (n + 1)])) ⟨env, st⟩ := frN_eq (ds := [.int (n + 1)]) (by
    unfold lstM
    rw [args1 (w := .fr (.int (n + 1))) (s' := ⟨env, st⟩) (by rw [bM_ok (mb := cM (.int 1)) (b := .fr (.int 1)) (s2 := ⟨env, st⟩) v1 rfl]; rfl), then_ok']
    rfl)
  refine frN_eq ?_
  unfold repN
  rw [a, then_ok', v1, then_ok']
  unfold repG
  rw [show lstO ⟨env, st⟩ (.fr (.lst [.int (n + 1)])) = some [W.fr (.int (n + 1))] from rfl, view_fr]
  dsimp only
  rw [if_pos ⟨by omega, by omega, by rw [Int.toNat_natCast, small24]; simp; omega⟩, Int.toNat_natCast]
  congr 1
  rw [List.map_replicate]
  generalize W.fr (.int ((n : Int) + 1)) = x
  induction n with
  | zero => rfl
  | succ n ih => rw [List.replicate_succ, List.flatten_cons, List.replicate_succ]; exact congrArg (x :: ·) (by
      clear ih h1 hn v1 a
      induction n with
      | zero => rfl
      | succ n ih => rw [List.replicate_succ, List.flatten_cons, List.replicate_succ]; exact congrArg (x :: ·) ih)
/-- data drawn, by numbers -/
theorem conv {items : List D} {Q : Option Int → Prop} (hit : ∀ d ∈ items, ∃ o, d = iO o ∧ Q o) : ∀ {rows : List (List D)}, (∀ r ∈ rows, ∀ d ∈ r, d ∈ items) → ∃ ro : List (List (Option Int)), rows = rowsD ro ∧ ∀ r ∈ ro, ∀ o ∈ r, Q o
  | [], _ => ⟨[], rfl, by simp⟩
  | r :: rows, h => by
    obtain ⟨ro, e, q⟩ := conv hit (rows := rows) fun r' h' => h r' (List.mem_cons_of_mem _ h')
    have one : ∀ {r : List D}, (∀ d ∈ r, d ∈ items) → ∃ ro : List (Option Int), r = ro.map iO ∧ ∀ o ∈ ro, Q o := by
      intro r
      induction r with
      | nil => exact fun _ => ⟨[], rfl, by simp⟩
      | cons d r ih =>
        intro h
        obtain ⟨o, e, q⟩ := hit d (h d List.mem_cons_self)
        obtain ⟨ro, e', q'⟩ := ih fun d' h' => h d' (List.mem_cons_of_mem _ h')
        refine ⟨o :: ro, by rw [e, e']; rfl, fun o' ho' => ?_⟩
        rcases List.mem_cons.mp ho' with z | z
        · rw [z]; exact q
        · exact q' o' z
    obtain ⟨r1, e1, q1⟩ := one (h r List.mem_cons_self)
    refine ⟨r1 :: ro, by rw [e1, e]; rfl, fun r' h' => ?_⟩
    rcases List.mem_cons.mp h' with z | z
    · rw [z]; exact q1
    · exact q r' z
theorem nice_rows {t1 t2 : Bool} {rows : List (List (Option Int))} {n : Nat} (hn : rows.length = n) (hr : ∀ r ∈ rows, r.length = n ∧ ∀ o ∈ r, Bd o) : Nice 50 ((201 * n + 1) * n) 2 (matD t1 t2 (rowsD rows)) := by
  have h1 : ∀ d ∈ (rowsD rows).map (seqD t1), Nice 50 (201 * n) 1 d := by
    intro d hd
    obtain ⟨r', hr', rfl⟩ := List.mem_map.mp hd
    obtain ⟨r, hr2, rfl⟩ := List.mem_map.mp hr'
    have hall : ∀ d ∈ r.map iO, Nice 50 200 0 d := fun d hd => by
      obtain ⟨o, ho, rfl⟩ := List.mem_map.mp hd
      exact nice_iO ((hr r hr2).2 o ho)
    have hl : (r.map iO).length = n := by rw [List.length_map]; exact (hr r hr2).1
    cases t1
    · have := nice_lst hall
      rw [hl] at this
      exact this
    · have := nice_tup hall
      rw [hl] at this
      exact this
  have hl : ((rowsD rows).map (seqD t1)).length = n := by rw [List.length_map, List.length_map, hn]
  cases t2
  · have := nice_lst h1
    rw [hl] at this
    exact this
  · have := nice_tup h1
    rw [hl] at this
    exact this
theorem nice_pair {a b : D} {n : Nat} (hn : n ≤ 10) (ha : Nice 50 ((201 * n + 1) * n) 2 a) (hb : Nice 50 ((201 * n + 1) * n) 2 b) : ∃ x, repD (.lst [a, b]) = some (.str x) := by
  have h := nice_lst (ds := [a, b]) (B := 50) (L := (201 * n + 1) * n) (Dp := 2) (fun d hd => by
    rcases List.mem_cons.mp hd with z | z
    · rw [z]; exact ha
    · rw [List.mem_singleton.mp z]; exact hb)
  refine rep_nice h rfl (by decide) ?_ (by decide)
  have e : (201 * n + 1) * n ≤ 20110 := by
    have a1 : 201 * n + 1 ≤ 2011 := by omega
    exact Nat.le_trans (Nat.mul_le_mul a1 hn) (by decide)
  show (50 + 2) * (((201 * n + 1) * n + 1) * 2) + 50 ≤ 2 ^ 24
  omega
theorem nice_one {t1 t2 : Bool} {rows : List (List (Option Int))} {n : Nat} (hb : n ≤ 10) (hn : rows.length = n) (hr : ∀ r ∈ rows, r.length = n ∧ ∀ o ∈ r, Bd o) : ∃ x, repD (matD t1 t2 (rowsD rows)) = some (.str x) := by
  refine rep_nice (nice_rows (t1 := t1) (t2 := t2) hn hr) (by cases t2 <;> rfl) (by decide) ?_ (by decide)
  have e : (201 * n + 1) * n ≤ 20110 := by
    have a1 : 201 * n + 1 ≤ 2011 := by omega
    exact Nat.le_trans (Nat.mul_le_mul a1 hb) (by decide)
  show (50 + 2) * ((201 * n + 1) * n) + 50 ≤ 2 ^ 24
  omega
theorem lstM_mat (rows : List (List D)) : lstM' rows = matD false false rows := rfl
theorem lens_eq {n : Nat} (hn : n < 1000) : eqB2 (.lst (List.replicate n (.int (n + 1)))) (.lst (List.replicate n (.int ((n : Int) + 1)))) = some true := by
  have h := nice_lst (ds := List.replicate n (D.int ((n : Int) + 1))) (B := 50) (L := 200) (Dp := 0) (fun d hd => by
    rw [(List.mem_replicate.mp hd).2]
    refine nice_iO (o := some ((n : Int) + 1)) fun v e => ?_
    cases e
    have : (1001 : Int) < 10 ^ 40 := by decide
    exact ⟨by omega, by omega⟩)
  obtain ⟨c, e, t⟩ := eqB_nice h h (by decide) (by decide)
  show eqB _ _ = _
  rw [e, t rfl]
end K35
namespace K35
open PySem PySem.Spec PyProof.Rows L2 Z
def itemsC : List D := [.int 0, .int 1, .int 2, .int 9, .non, .non, .int (10 ^ 30 - 1), .int 5]
def Q39 (o : Option Int) : Prop := ∀ v, o = some v → 0 ≤ v ∧ v < 10 ^ 39
theorem itemsC_ok : ∀ d ∈ itemsC, ∃ o, d = iO o ∧ Q39 o := by
  have q : ∀ v : Int, 0 ≤ v → v < 10 ^ 39 → ∃ o, D.int v = iO o ∧ Q39 o := fun v h0 h1 => ⟨some v, rfl, fun u e => by cases e; exact ⟨h0, h1⟩⟩
  intro d hd
  simp only [itemsC, List.mem_cons, List.not_mem_nil, or_false] at hd
  rcases hd with rfl | rfl | rfl | rfl | rfl | rfl | rfl | rfl
  · exact q _ (by decide) (by decide)
  · exact q _ (by decide) (by decide)
  · exact q _ (by decide) (by decide)
  · exact q _ (by decide) (by decide)
  · exact ⟨none, rfl, fun v e => by cases e⟩
  · exact ⟨none, rfl, fun v e => by cases e⟩
  · exact q _ (by decide) (by decide)
  · exact q _ (by decide) (by decide)
theorem Q39.bd {o : Option Int} (h : Q39 o) : Bd o := fun v e => ⟨(h v e).1, Int.lt_trans (h v e).2 (by decide)⟩
theorem minL_bd {ns : List Int} {B : Int} (hne : ns ≠ []) (h : ∀ v ∈ ns, 0 ≤ v ∧ v < B) : 0 ≤ minL ns ∧ minL ns < B := h _ (minL_ok hne).1
theorem due_ok {one : List (List (Option Int))} {n : Nat} (h1 : one.length = n) (r1 : ∀ r ∈ one, r.length = n ∧ ∀ o ∈ r, Q39 o) (hb : n < 1000) {env : List (Option W)} (h3 : env[3]? = some (some (.fr (lstM' (rowsD one))))) (hl : env.length = 12) (st : List Cell) :
    frN (lcM (seqI (vM 3)) (bName 9) yesM (frN (lcM (seqI (vM 9)) (bName 11) yesM (ifM (mNt false (vM 11)) (cM (.int 3)) (cbM (g1 intD) (consA (bM (vM 11) (cM (.int 0)) (op2 gtD)) nilA))) [11])) [9]) ⟨env, st⟩ = .ok (.fr (lstM' (rowsD (one.map (List.map shO))))) ⟨env, st⟩ := by
  have e := lcM_mapG (mi := seqI (vM 3)) (bd := bName 9) (me := frN (lcM (seqI (vM 9)) (bName 11) yesM (ifM (mNt false (vM 11)) (cM (.int 3)) (cbM (g1 intD) (consA (bM (vM 11) (cM (.int 0)) (op2 gtD)) nilA))) [11])) (vs := [9]) (s := ⟨env, st⟩) (s0 := ⟨env, st⟩) (xs := one) (fun r => W.fr (.lst (r.map iO))) (fun r => W.fr (.lst ((r.map shO).map iO)))
    (by rw [seqI_fr (m := vM 3) (s := ⟨env, st⟩) (s0 := ⟨env, st⟩) (d := lstM' (rowsD one)) (ds := (rowsD one).map D.lst) (vM_ok h3) rfl, List.map_map, List.map_map]; rfl) (by rw [small24]; omega)
    (fun r hr => by
      let E9 := (wipeW env [9]).set 9 (some (W.fr (.lst (r.map iO))))
      have l9 : E9.length = 12 := by show ((wipeW env [9]).set 9 _).length = 12; rw [List.length_set, wipeW_length]; exact hl
      have h9 : E9[9]? = some (some (.fr (.lst (r.map iO)))) := List.getElem?_set_self (by rw [wipeW_length, hl]; decide)
      refine ⟨⟨E9, st⟩, ⟨E9, st⟩, rfl, ?_, rfl⟩
      have e := lcM_mapG (mi := seqI (vM 9)) (bd := bName 11) (me := ifM (mNt false (vM 11)) (cM (.int 3)) (cbM (g1 intD) (consA (bM (vM 11) (cM (.int 0)) (op2 gtD)) nilA))) (vs := [11]) (s := ⟨E9, st⟩) (s0 := ⟨E9, st⟩) (xs := r) (fun o => W.fr (iO o)) (fun o => W.fr (iO (shO o)))
        (by rw [seqI_fr (m := vM 9) (s := ⟨E9, st⟩) (s0 := ⟨E9, st⟩) (d := .lst (r.map iO)) (ds := r.map iO) (vM_ok h9) rfl, List.map_map]; rfl) (by rw [small24, (r1 r hr).1]; omega)
        (fun o ho => by
          let E11 := (wipeW E9 [11]).set 11 (some (W.fr (iO o)))
          have v11 : vM 11 ⟨E11, st⟩ = .ok (.fr (iO o)) ⟨E11, st⟩ := vM_ok (List.getElem?_set_self (by rw [wipeW_length, l9]; decide))
          refine ⟨⟨E11, st⟩, ⟨E11, st⟩, rfl, ?_, rfl⟩
          have hq := (r1 r hr).2 o ho
          cases o with
          | none => simp [ifM, mNt, v11, then_ok', iO, isN_non, shO, cM]
          | some v =>
            have h0 := (hq v rfl).1
            have hv : (if (0 : Int) < v then (1 : Int) else 0) = if 1 < v then 1 else v := by
              by_cases a : 0 < v
              · rw [if_pos a]
                by_cases b : 1 < v
                · rw [if_pos b]
                · rw [if_neg b]; omega
              · rw [if_neg a, if_neg (by omega)]; omega
            simp only [ifM, mNt, v11, then_ok', iO, isN_int, shO, cM, bM, consA, nilA, cbM, op2, view_fr, iop_int, if_true, g1, Z.intD, Bool.false_eq_true, if_false]
            rw [← hv]
            by_cases a : 0 < v <;> simp [a, Z.intD])
      exact frN_eq (e.trans (by rw [List.map_map, List.map_map]; rfl)))
  refine frN_eq (e.trans ?_)
  unfold rowsD
  rw [List.map_map, List.map_map, List.map_map]
  rfl
theorem addG_bd {one other : List (List (Option Int))} {n : Nat} (h2 : other.length = n) (r1 : ∀ r ∈ one, r.length = n ∧ ∀ o ∈ r, Q39 o) (r2 : ∀ r ∈ other, r.length = n ∧ ∀ o ∈ r, Q39 o) :
    ∀ r ∈ tabO addG one other n, r.length = n ∧ ∀ o ∈ r, Bd o := by
  intro r hr
  obtain ⟨row, hrow, rfl⟩ := List.mem_map.mp hr
  refine ⟨by simp, fun o ho => ?_⟩
  obtain ⟨j, hj, rfl⟩ := List.mem_map.mp ho
  have hj := List.mem_range.mp hj
  have hs := sumL_bd h2 (fun r h => (r1 r h).1) (fun r h => (r2 r h).1) (fun r h => (r1 r h).2) (fun r h => (r2 r h).2) hrow hj
  intro v e
  rw [addG_eq] at e
  split at e
  · cases e
  · rename_i hz
    cases e
    exact minL_bd hz hs
theorem shO_bd {one : List (List (Option Int))} {n : Nat} (r1 : ∀ r ∈ one, r.length = n ∧ ∀ o ∈ r, Q39 o) : ∀ r ∈ one.map (List.map shO), r.length = n ∧ ∀ o ∈ r, Bd o := by
  intro r hr
  obtain ⟨row, hrow, rfl⟩ := List.mem_map.mp hr
  refine ⟨by rw [List.length_map]; exact (r1 row hrow).1, fun o ho => ?_⟩
  obtain ⟨p, hp, rfl⟩ := List.mem_map.mp ho
  intro v e
  have t : (4 : Int) < 10 ^ 40 := by decide
  cases p with
  | none => cases e; exact ⟨by decide, by decide⟩
  | some u =>
    have hu := ((r1 row hrow).2 _ hp u rfl)
    cases e
    by_cases a : 1 < u
    · rw [if_pos a]; exact ⟨by decide, by decide⟩
    · rw [if_neg a]; exact ⟨hu.1, by omega⟩
theorem ent_len (rows : List (List (Option Int))) : (ent rows).length = rows.length := List.length_map _
theorem longer_lens {rows : List (List (Option Int))} {n : Nat} {c : Int} (hn : rows.length = n) (hr : ∀ r ∈ rows, r.length = n) : ((ent rows).map fun w => w ++ [W.fr (.int c)]).map (fun w => D.int w.length) = List.replicate n (.int ((n : Int) + 1)) := by
  have e : List.replicate n (D.int ((n : Int) + 1)) = rows.map fun _ => D.int ((n : Int) + 1) := by rw [List.map_const', hn]
  rw [e, List.map_map, List.map_map]
  refine List.map_congr_left fun r h => ?_
  show D.int ((r.map fun o => W.fr (iO o)) ++ [W.fr (.int c)]).length = _
  rw [List.length_append, List.length_map, hr r h]
  rfl
end K35
namespace K35
open PySem PySem.Spec PyProof.Rows L2 Z
theorem costs_right_ok {k n : Nat} {st0 st : List Cell} (hcl : Closed st0) (hk : k < st0.length) (h : BX k st0 st) (hn : n ≤ 10) :
    ∃ st', e__law_costs_right [.loc k, .fr (.int n)] st = .ok (.fr (.bl true)) st' ∧ BX k st0 st' := by
  obtain ⟨rows1, s1, d1, b1, l1, m1⟩ := drawn_ok (items := itemsC) (n := n) hcl hk h (by decide) (by decide) (by omega)
  obtain ⟨rows2, s2, d2, b2, l2, m2⟩ := drawn_ok (items := itemsC) (n := n) hcl hk b1 (by decide) (by decide) (by omega)
  obtain ⟨one, rfl, q1⟩ := conv itemsC_ok (rows := rows1) fun r hr => (m1 r hr).2
  obtain ⟨other, rfl, q2⟩ := conv itemsC_ok (rows := rows2) fun r hr => (m2 r hr).2
  have lo : one.length = n := by rw [← l1, List.length_map]
  have lt : other.length = n := by rw [← l2, List.length_map]
  have w1 : ∀ r ∈ one, r.length = n ∧ ∀ o ∈ r, Q39 o := fun r hr => ⟨by have := (m1 (r.map iO) (List.mem_map.mpr ⟨r, hr, rfl⟩)).1; rwa [List.length_map] at this, q1 r hr⟩
  have w2 : ∀ r ∈ other, r.length = n ∧ ∀ o ∈ r, Q39 o := fun r hr => ⟨by have := (m2 (r.map iO) (List.mem_map.mpr ⟨r, hr, rfl⟩)).1; rwa [List.length_map] at this, q2 r hr⟩
  have nn1 : ∀ r ∈ one, r.length = n ∧ ∀ i ∈ r, ∀ v, i = some v → 0 ≤ v := fun r hr => ⟨(w1 r hr).1, fun i hi v e => ((w1 r hr).2 i hi v e).1⟩
  have nn2 : ∀ r ∈ other, r.length = n ∧ ∀ i ∈ r, ∀ v, i = some v → 0 ≤ v := fun r hr => ⟨(w2 r hr).1, fun i hi v e => ((w2 r hr).2 i hi v e).1⟩
  obtain ⟨t1, t2, s3, gv1, b3⟩ := given_ok (rows := rowsD one) hk b2 (by rw [List.length_map]; omega)
  obtain ⟨t3, t4, s4, gv2, b4⟩ := given_ok (rows := rowsD other) hk b3 (by rw [List.length_map]; omega)
  obtain ⟨F, hF⟩ : ∃ F, F = matD t1 t2 (rowsD one) := ⟨_, rfl⟩
  obtain ⟨G, hG⟩ : ∃ G, G = matD t3 t4 (rowsD other) := ⟨_, rfl⟩
  obtain ⟨x, hx⟩ : ∃ x, repD (.lst [F, G]) = some (.str x) := by
    rw [hF, hG]
    exact nice_pair hn (nice_rows lo fun r hr => ⟨(w1 r hr).1, fun o ho => ((w1 r hr).2 o ho).bd⟩) (nice_rows lt fun r hr => ⟨(w2 r hr).1, fun o ho => ((w2 r hr).2 o ho).bd⟩)
  have cl4 : Closed s4 := b4.closed hcl
  have len4 : s4.length = st0.length := b4.len
  obtain ⟨P, hP⟩ : ∃ P, P = tabO addG one other n := ⟨_, rfl⟩
  have lP : P.length = n := by rw [hP]; unfold tabO; rw [List.length_map, lo]
  have bP : ∀ r ∈ P, r.length = n ∧ ∀ o ∈ r, Bd o := by rw [hP]; exact addG_bd lt w1 w2
  obtain ⟨y, hy⟩ : ∃ y, repD (lstM' (rowsD P)) = some (.str y) := nice_one (t1 := false) (t2 := false) hn lP bP
  obtain ⟨Q, hQ⟩ : ∃ Q, Q = one.map (List.map shO) := ⟨_, rfl⟩
  have lQ : Q.length = n := by rw [hQ, List.length_map, lo]
  have bQ : ∀ r ∈ Q, r.length = n ∧ ∀ o ∈ r, Bd o := by rw [hQ]; exact shO_bd w1
  obtain ⟨z, hz⟩ : ∃ z, repD (lstM' (rowsD Q)) = some (.str z) := nice_one (t1 := false) (t2 := false) hn lQ bQ
  let E : Option W → Option W → Option W → Option W → List (Option W) := fun o7 o8 o9 o10 => [some (.loc k), some (.fr (.int n)), some (.fr (.lst itemsC)), some (.fr (lstM' (rowsD one))), some (.fr (lstM' (rowsD other))), some (.fr F), some (.fr G), o7, o8, o9, o10, none]
  let X : Option W := some (.fr (.str x))
  -- the kept text, at any time
  have kept : ∀ (o8 o9 o10 o7 : Option W) (s : List Cell), cbM gRepr (consA (frN (lstM (consA (vM 5) (consA (vM 6) nilA)))) nilA) ⟨E o7 o8 o9 o10, s⟩ = .ok (.fr (.str x)) ⟨E o7 o8 o9 o10, s⟩ := fun o8 o9 o10 o7 s => by
    have f := frN_eq (m := lstM (consA (vM 5) (consA (vM 6) nilA))) (s := ⟨E o7 o8 o9 o10, s⟩) (s' := ⟨E o7 o8 o9 o10, s⟩) (ds := [F, G]) rfl
    exact (cbM_ok (args1 f)).trans (gRepr_ok rfl hx)
  have a1 : setC 2 (frN (lstM (consA (cM (.int 0)) (consA (cM (.int 1)) (consA (cM (.int 2)) (consA (cM (.int 9)) (consA (cM .non) (consA (cM .non) (consA (bM (bM (cM (.int 10)) (cM (.int 30)) (op2 powD)) (cM (.int 1)) (op2 subD)) (consA (cM (.int 5)) nilA)))))))))) (startS 12 [.loc k, .fr (.int n)] st)
      = .nx ⟨[some (.loc k), some (.fr (.int n)), some (.fr (.lst itemsC)), none, none, none, none, none, none, none, none, none], st⟩ := rfl
  have a2 : parC 3 4 (consA (callM 3 e__law_drawn (consA (vM 0) (consA (vM 1) (consA (vM 2) nilA)))) (consA (callM 3 e__law_drawn (consA (vM 0) (consA (vM 1) (consA (vM 2) nilA)))) nilA)) ⟨[some (.loc k), some (.fr (.int n)), some (.fr (.lst itemsC)), none, none, none, none, none, none, none, none, none], st⟩
      = .nx ⟨[some (.loc k), some (.fr (.int n)), some (.fr (.lst itemsC)), some (.fr (lstM' (rowsD one))), some (.fr (lstM' (rowsD other))), none, none, none, none, none, none, none], s2⟩ := by
    have ar : ∀ s : List Cell, consA (vM 0) (consA (vM 1) (consA (vM 2) nilA)) ⟨[some (.loc k), some (.fr (.int n)), some (.fr (.lst itemsC)), none, none, none, none, none, none, none, none, none], s⟩ = .ok [.loc k, .fr (.int n), .fr (.lst itemsC)] ⟨[some (.loc k), some (.fr (.int n)), some (.fr (.lst itemsC)), none, none, none, none, none, none, none, none, none], s⟩ := fun s => rfl
    exact parC_ok (argsS (callM_ok (ar st) rfl d1) (args1 (callM_ok (ar s1) rfl d2)))
  have a3 : parC 5 6 (consA (callM 2 e__law_given (consA (vM 0) (consA (vM 3) nilA))) (consA (callM 2 e__law_given (consA (vM 0) (consA (vM 4) nilA))) nilA)) ⟨[some (.loc k), some (.fr (.int n)), some (.fr (.lst itemsC)), some (.fr (lstM' (rowsD one))), some (.fr (lstM' (rowsD other))), none, none, none, none, none, none, none], s2⟩
      = .nx ⟨E none none none none, s4⟩ := by
    have ar : ∀ s : List Cell, consA (vM 0) (consA (vM 3) nilA) ⟨[some (.loc k), some (.fr (.int n)), some (.fr (.lst itemsC)), some (.fr (lstM' (rowsD one))), some (.fr (lstM' (rowsD other))), none, none, none, none, none, none, none], s⟩ = .ok [.loc k, .fr (lstM' (rowsD one))] ⟨[some (.loc k), some (.fr (.int n)), some (.fr (.lst itemsC)), some (.fr (lstM' (rowsD one))), some (.fr (lstM' (rowsD other))), none, none, none, none, none, none, none], s⟩ := fun s => rfl
    have ar' : ∀ s : List Cell, consA (vM 0) (consA (vM 4) nilA) ⟨[some (.loc k), some (.fr (.int n)), some (.fr (.lst itemsC)), some (.fr (lstM' (rowsD one))), some (.fr (lstM' (rowsD other))), none, none, none, none, none, none, none], s⟩ = .ok [.loc k, .fr (lstM' (rowsD other))] ⟨[some (.loc k), some (.fr (.int n)), some (.fr (.lst itemsC)), some (.fr (lstM' (rowsD one))), some (.fr (lstM' (rowsD other))), none, none, none, none, none, none, none], s⟩ := fun s => rfl
    have := parC_ok (i := 5) (j := 6) (argsS (callM_ok (ar s2) rfl gv1) (args1 (callM_ok (ar' s3) rfl gv2)))
    rw [← hF, ← hG] at this
    exact this
  have a4 : setC 7 (cbM gRepr (consA (frN (lstM (consA (vM 5) (consA (vM 6) nilA)))) nilA)) ⟨E none none none none, s4⟩ = .nx ⟨E X none none none, s4⟩ := setC_ok (kept none none none none s4)
  -- the product
  have mc := multiply_costs_ok (t1 := t1) (t2 := t2) (t3 := t3) (t4 := t4) lo lt nn1 nn2 (by omega) s4
  rw [← hF, ← hG, ← hP, nestC_eq] at mc
  let R1 : Option W := some (.loc (s4.length + n))
  have a5 : setC 8 (callM 2 e_multiply_costs (consA (vM 5) (consA (vM 6) nilA))) ⟨E X none none none, s4⟩ = .nx ⟨E X R1 none none, nestW s4 (ent P)⟩ := setC_ok (callM_ok (argsS (s' := ⟨E X none none none, s4⟩) rfl (args1 rfl)) rfl mc)
  have dP : ∀ env, deep ⟨env, nestW s4 (ent P)⟩ (.loc (s4.length + n)) = some (lstM' (rowsD P)) := fun env => by
    have := nest_deep env s4 (rowsD P)
    rw [List.length_map, lP] at this
    rw [ent_eq]
    exact this
  have su := sums_ok lo lt (fun r h => (w1 r h).1) (fun r h => (w2 r h).1) (by omega) (fun r hr o ho v e => (w1 r hr).2 o ho v e) (fun r hr o ho v e => (w2 r hr).2 o ho v e) (st := nestW s4 (ent P)) (nest_closed cl4 fun w hw => by
    rw [ent_eq] at hw
    obtain ⟨ds, _, rfl⟩ := List.mem_map.mp hw
    exact ⟨ds, rfl⟩)
  rw [← hP] at su
  have a6 : ifC (fun s => asB ((bM (cbM gRepr (consA (vM 8) nilA)) (cbM gRepr (consA (callM 2 e__law_sums (consA (vM 3) (consA (vM 4) nilA))) nilA)) (eqG true)) s)) (rtC (cM (.bl false))) nxC ⟨E X R1 none none, nestW s4 (ent P)⟩ = .nx ⟨E X R1 none none, nestW s4 (ent P)⟩ := by
    have r1 : cbM gRepr (consA (vM 8) nilA) ⟨E X R1 none none, nestW s4 (ent P)⟩ = .ok (.fr (.str y)) ⟨E X R1 none none, nestW s4 (ent P)⟩ := (cbM_ok (args1 (w := .loc (s4.length + n)) (s' := ⟨E X R1 none none, nestW s4 (ent P)⟩) rfl)).trans (gRepr_ok (dP _) hy)
    have c : callM 2 e__law_sums (consA (vM 3) (consA (vM 4) nilA)) ⟨E X R1 none none, nestW s4 (ent P)⟩ = .ok (.fr (lstM' (rowsD P))) ⟨E X R1 none none, nestW s4 (ent P)⟩ := callM_ok (argsS (s' := ⟨E X R1 none none, nestW s4 (ent P)⟩) rfl (args1 rfl)) rfl su
    have r2 : cbM gRepr (consA (callM 2 e__law_sums (consA (vM 3) (consA (vM 4) nilA))) nilA) ⟨E X R1 none none, nestW s4 (ent P)⟩ = .ok (.fr (.str y)) ⟨E X R1 none none, nestW s4 (ent P)⟩ := (cbM_ok (args1 c)).trans (gRepr_ok rfl hy)
    refine ifC_ff (asB_ok ((bM_ok r1 r2).trans ?_))
    rw [eqG_str]
    simp
  obtain ⟨o9, a7, _⟩ := longer_ok (i := 8) (j := 9) (c := 7) (st := s4) (ws := ent P) (env := E X R1 none none) (by rw [ent_len, lP]; rfl) (by decide) (by show 9 < 12; decide) (fun w hw => by
    obtain ⟨r, hr, rfl⟩ := List.mem_map.mp hw
    rw [List.length_map, (bP r hr).1]; omega)
  let S2 := nestW s4 ((ent P).map fun w => w ++ [W.fr (.int 7)])
  have lS2 : ((ent P).map fun w => w ++ [W.fr (.int 7)]).length = n := by rw [List.length_map, ent_len, lP]
  have a7' : forC (seqI (vM 8)) (bName 9) (appC (vM 9) (cM (.int 7))) ⟨E X R1 none none, nestW s4 (ent P)⟩ = .nx ⟨E X R1 o9 none, S2⟩ := a7
  have cl2 : Closed S2 := nest_closed cl4 fun w hw => by
    obtain ⟨w', hw', rfl⟩ := List.mem_map.mp hw
    rw [ent_eq] at hw'
    obtain ⟨ds, _, rfl⟩ := List.mem_map.mp hw'
    exact ⟨ds ++ [.int 7], by simp⟩
  have a8 : ifC (Z.orM (fun s => asB ((bM (frN (lcM (seqI (vM 8)) (bName 9) yesM (cbM gLen (consA (vM 9) nilA)) [9])) (frN (repN (frN (lstM (consA (bM (vM 1) (cM (.int 1)) (op2 addD)) nilA))) (vM 1))) (eqG true)) s)) (fun s => asB ((bM (cbM gRepr (consA (frN (lstM (consA (vM 5) (consA (vM 6) nilA)))) nilA)) (vM 7) (eqG true)) s))) (rtC (cM (.bl false))) nxC ⟨E X R1 o9 none, S2⟩ = .nx ⟨E X R1 o9 none, S2⟩ := by
    have l := lens_ok (i := 8) (j := 9) (st := s4) (ws := (ent P).map fun w => w ++ [W.fr (.int 7)]) (env := E X R1 o9 none) (by rw [lS2]; rfl) (by decide) (by show 9 < 12; decide) (by rw [lS2]; omega)
    rw [longer_lens lP fun r h => (bP r h).1] at l
    refine ifC_ff (orM_ff (asB_ok ((bM_ok l (many_ok (n := n) rfl (by omega))).trans ((eqG_of (x := .lst _) (y := .lst _) rfl rfl (lens_eq (by omega))).trans rfl))) (asB_ok ((bM_ok (mb := vM 7) (kept _ _ _ _ _) (b := .fr (.str x)) (s2 := ⟨E X R1 o9 none, S2⟩) rfl).trans ?_)))
    rw [eqG_str]
    simp
  let DU : Option W := some (.fr (lstM' (rowsD Q)))
  have a9 : setC 10 (frN (lcM (seqI (vM 3)) (bName 9) yesM (frN (lcM (seqI (vM 9)) (bName 11) yesM (ifM (mNt false (vM 11)) (cM (.int 3)) (cbM (g1 Z.intD) (consA (bM (vM 11) (cM (.int 0)) (op2 gtD)) nilA))) [11])) [9])) ⟨E X R1 o9 none, S2⟩ = .nx ⟨E X R1 o9 DU, S2⟩ := by
    have d := due_ok lo w1 (by omega) (env := E X R1 o9 none) rfl rfl S2
    rw [← hQ] at d
    exact setC_ok d
  -- the shapes
  have sh := fun s => shape_of_ok (t1 := t1) (t2 := t2) lo nn1 (by omega) s
  simp only [← hF, ← hQ, nestC_eq] at sh
  let R2 : Option W := some (.loc (S2.length + n))
  have a10 : setC 8 (callM 1 e_shape_of (consA (vM 5) nilA)) ⟨E X R1 o9 DU, S2⟩ = .nx ⟨E X R2 o9 DU, nestW S2 (ent Q)⟩ := setC_ok (callM_ok (args1 (s' := ⟨E X R1 o9 DU, S2⟩) rfl) rfl (sh S2))
  have dQ : ∀ env (s : List Cell), deep ⟨env, nestW s (ent Q)⟩ (.loc (s.length + n)) = some (lstM' (rowsD Q)) := fun env s => by
    have := nest_deep env s (rowsD Q)
    rw [List.length_map, lQ] at this
    rw [ent_eq]
    exact this
  have a11 : ifC (Z.orM (fun s => asB ((bM (cbM gRepr (consA (vM 8) nilA)) (cbM gRepr (consA (vM 10) nilA)) (eqG true)) s)) (fun s => asB ((bM (cbM gRepr (consA (frN (lstM (consA (vM 5) (consA (vM 6) nilA)))) nilA)) (vM 7) (eqG true)) s))) (rtC (cM (.bl false))) nxC ⟨E X R2 o9 DU, nestW S2 (ent Q)⟩ = .nx ⟨E X R2 o9 DU, nestW S2 (ent Q)⟩ := by
    have r1 : cbM gRepr (consA (vM 8) nilA) ⟨E X R2 o9 DU, nestW S2 (ent Q)⟩ = .ok (.fr (.str z)) ⟨E X R2 o9 DU, nestW S2 (ent Q)⟩ := (cbM_ok (args1 (w := .loc (S2.length + n)) (s' := ⟨E X R2 o9 DU, nestW S2 (ent Q)⟩) rfl)).trans (gRepr_ok (dQ _ _) hz)
    have r2 : cbM gRepr (consA (vM 10) nilA) ⟨E X R2 o9 DU, nestW S2 (ent Q)⟩ = .ok (.fr (.str z)) ⟨E X R2 o9 DU, nestW S2 (ent Q)⟩ := (cbM_ok (args1 (w := .fr (lstM' (rowsD Q))) (s' := ⟨E X R2 o9 DU, nestW S2 (ent Q)⟩) rfl)).trans (gRepr_ok rfl hz)
    refine ifC_ff (orM_ff (asB_ok ((bM_ok r1 r2).trans ?_)) (asB_ok ((bM_ok (mb := vM 7) (kept R2 o9 DU X (nestW S2 (ent Q))) (b := .fr (.str x)) (s2 := ⟨E X R2 o9 DU, nestW S2 (ent Q)⟩) rfl).trans ?_)))
    · rw [eqG_str]; simp
    · rw [eqG_str]; simp
  obtain ⟨o9', a12, _⟩ := longer_ok (i := 8) (j := 9) (c := 9) (st := S2) (ws := ent Q) (env := E X R2 o9 DU) (by rw [ent_len, lQ]; rfl) (by decide) (by show 9 < 12; decide) (fun w hw => by
    obtain ⟨r, hr, rfl⟩ := List.mem_map.mp hw
    rw [List.length_map, (bQ r hr).1]; omega)
  let S3 := nestW S2 ((ent Q).map fun w => w ++ [W.fr (.int 9)])
  have lS3 : ((ent Q).map fun w => w ++ [W.fr (.int 9)]).length = n := by rw [List.length_map, ent_len, lQ]
  have a12' : forC (seqI (vM 8)) (bName 9) (appC (vM 9) (cM (.int 9))) ⟨E X R2 o9 DU, nestW S2 (ent Q)⟩ = .nx ⟨E X R2 o9' DU, S3⟩ := a12
  have a13 : rtC (andV (bM (frN (lcM (seqI (vM 8)) (bName 9) yesM (cbM gLen (consA (vM 9) nilA)) [9])) (frN (repN (frN (lstM (consA (bM (vM 1) (cM (.int 1)) (op2 addD)) nilA))) (vM 1))) (eqG false)) (bM (callM 1 e_shape_of (consA (vM 5) nilA)) (vM 10) (eqG false))) ⟨E X R2 o9' DU, S3⟩ = .rt (.fr (.bl true)) ⟨E X R2 o9' DU, nestW S3 (ent Q)⟩ := by
    have l := lens_ok (i := 8) (j := 9) (st := S2) (ws := (ent Q).map fun w => w ++ [W.fr (.int 9)]) (env := E X R2 o9' DU) (by rw [lS3]; rfl) (by decide) (by show 9 < 12; decide) (by rw [lS3]; omega)
    rw [longer_lens lQ fun r h => (bQ r h).1] at l
    have c : callM 1 e_shape_of (consA (vM 5) nilA) ⟨E X R2 o9' DU, S3⟩ = .ok (.loc (S3.length + n)) ⟨E X R2 o9' DU, nestW S3 (ent Q)⟩ := callM_ok (args1 (s' := ⟨E X R2 o9' DU, S3⟩) rfl) rfl (sh S3)
    have nq : Nice 50 ((201 * n + 1) * n) 2 (lstM' (rowsD Q)) := nice_rows (t1 := false) (t2 := false) lQ bQ
    obtain ⟨cc, ec, tc⟩ := eqB_nice nq nq (by decide) (by decide)
    refine rtC_ok (andV_tt ((bM_ok l (many_ok (n := n) rfl (by omega))).trans ((eqG_of (x := .lst _) (y := .lst _) rfl rfl (lens_eq (by omega))).trans rfl)) ((bM_ok (mb := vM 10) c (b := .fr (lstM' (rowsD Q))) (s2 := ⟨E X R2 o9' DU, nestW S3 (ent Q)⟩) rfl).trans ((eqG_of (dQ _ S3) rfl (show eqB2 (lstM' (rowsD Q)) (lstM' (rowsD Q)) = some cc from ec)).trans ?_)))
    rw [tc rfl]
    rfl
  refine ⟨s4, ?_, b4⟩
  unfold e__law_costs_right runZ c__law_costs_right
  rw [seqC_nx a1, seqC_nx a2, seqC_nx a3, seqC_nx a4, seqC_nx a5, seqC_nx a6, seqC_nx a7', seqC_nx a8, seqC_nx a9, seqC_nx a10, seqC_nx a11, seqC_nx a12', a13]
  have ap : ∀ (st : List Cell) (ws : List (List W)), ∃ m, nestW st ws = st ++ m := fun st ws => ⟨_, List.append_assoc _ _ _⟩
  obtain ⟨m1, e1⟩ := ap s4 ((ent P).map fun w => w ++ [W.fr (.int 7)])
  obtain ⟨m2, e2⟩ := ap S2 ((ent Q).map fun w => w ++ [W.fr (.int 9)])
  obtain ⟨m3, e3⟩ := ap S3 (ent Q)
  have hpre : nestW S3 (ent Q) = s4 ++ (m1 ++ (m2 ++ m3)) := by
    rw [e3, show S3 = S2 ++ m2 from e2, show S2 = s4 ++ m1 from e1, List.append_assoc, List.append_assoc]
  show cutF st.length (.ok (.fr (.bl true)) (nestW S3 (ent Q))) = _
  rw [hpre]
  exact cut_app cl4 (by rw [len4, h.len])
end K35
namespace K35
open PySem PySem.Spec PyProof.Rows L2 Z
def P3 (o : Option Int) : Prop := ∃ v, o = some v ∧ 0 ≤ v ∧ v ≤ 3
def M3 (rows : List (List (Option Int))) (n : Nat) : Prop := rows.length = n ∧ ∀ r ∈ rows, r.length = n ∧ ∀ o ∈ r, P3 o
theorem M3.small {rows : List (List (Option Int))} {n : Nat} (h : M3 rows n) : Small rows := fun r hr o ho => (h.2 r hr).2 o ho
theorem M3.len {rows : List (List (Option Int))} {n : Nat} (h : M3 rows n) : ∀ r ∈ rows, r.length = n := fun r hr => (h.2 r hr).1
theorem P3.bd {o : Option Int} (h : P3 o) : Bd o := by
  obtain ⟨v, rfl, h0, h1⟩ := h
  intro u e
  cases e
  have t : (4 : Int) < 10 ^ 40 := by decide
  exact ⟨h0, by omega⟩
theorem M3.bd {rows : List (List (Option Int))} {n : Nat} (h : M3 rows n) : ∀ r ∈ rows, r.length = n ∧ ∀ o ∈ r, Bd o := fun r hr => ⟨(h.2 r hr).1, fun o ho => ((h.2 r hr).2 o ho).bd⟩
theorem least3 {xs : List (Option Int)} (h : ∀ o ∈ xs, P3 o) (hne : xs ≠ []) : P3 (leastO xs) := by
  obtain ⟨ns, rfl⟩ := AllS.ints (xs := xs) fun o ho => let ⟨v, e, _⟩ := h o ho; ⟨v, e⟩
  have hn : ns ≠ [] := fun z => hne (by rw [z]; rfl)
  rw [leastO_some ns hn]
  obtain ⟨v, e, h0, h1⟩ := h (some (minL ns)) (List.mem_map.mpr ⟨_, (minL_ok hn).1, rfl⟩)
  cases e
  exact ⟨_, rfl, h0, h1⟩
theorem join_small {one other : List (List (Option Int))} {n : Nat} (h1 : M3 one n) (h2 : M3 other n) : M3 (tabO joinG one other n) n := by
  refine ⟨by unfold tabO; rw [List.length_map, h1.1], fun r hr => ?_⟩
  obtain ⟨row, hrow, rfl⟩ := List.mem_map.mp hr
  refine ⟨by simp, fun o ho => ?_⟩
  obtain ⟨j, hj, rfl⟩ := List.mem_map.mp ho
  have hj := List.mem_range.mp hj
  have hzl : (row.zip (colO other j)).length = n := by rw [List.length_zip, h1.len row hrow]; unfold colO; rw [List.length_map, h2.1]; omega
  refine least3 (fun o ho => ?_) (fun z => ?_)
  · obtain ⟨p, hp, rfl⟩ := List.mem_map.mp ho
    obtain ⟨m1, m2⟩ := List.of_mem_zip hp
    obtain ⟨u, eu, u0, u3⟩ := (h1.2 row hrow).2 _ m1
    obtain ⟨r, hr, e2⟩ := List.mem_map.mp m2
    have hc : p.2 ∈ r := by
      rw [← e2, List.getD_eq_getElem?_getD, List.getElem?_eq_getElem (by rw [h2.len r hr]; exact hj)]
      exact List.getElem_mem _
    obtain ⟨v, ev, v0, v3⟩ := (h2.2 r hr).2 _ hc
    rw [eu, ev]
    show P3 (some (if v > u then v else u))
    by_cases a : v > u
    · rw [if_pos a]; exact ⟨_, rfl, v0, v3⟩
    · rw [if_neg a]; exact ⟨_, rfl, u0, u3⟩
  · have := congrArg List.length z
    rw [List.length_map, hzl] at this
    simp at this
    omega
theorem is_stable_ok {t1 t2 : Bool} {p : List (List (Option Int))} {n : Nat} {c : Bool} {st : List Cell} (hcl : Closed st) (hp : M3 p n) (hb : n < 1000) (hc : eqB2 (lstM' (rowsD (tabO joinG p p n))) (lstM' (rowsD p)) = some c) :
    e_is_stable [.fr (matD t1 t2 (rowsD p))] st = .ok (.fr (.bl c)) st := by
  have c1 := check_shape_ok t1 t2 hp.1 hp.len hp.small hb st
  have o1 := own_size_ok t1 t2 (rowsD p) st
  have hl : (rowsD p).length = n := by rw [List.length_map, hp.1]
  rw [hl] at o1
  have j := joined_ok (t1 := t1) (t2 := t2) (t3 := t1) (t4 := t2) hp.1 hp.1 hp.len hp.len hp.small.full hp.small.full hb st
  rw [nestC_eq] at j
  let J := tabO joinG p p n
  have lJ : J.length = n := by show (tabO _ _ _ _).length = n; unfold tabO; rw [List.length_map, hp.1]
  let A := matD t1 t2 (rowsD p)
  let E : List (Option W) := [some (.fr A), none]
  let S1 := nestW st (ent J)
  have e0 : drC (callM 2 e_check_shape (consA (vM 0) (consA (callM 1 e_own_size (consA (vM 0) nilA)) nilA))) (startS 2 [.fr A] st) = .nx ⟨E, st⟩ := by
    have a : callM 1 e_own_size (consA (vM 0) nilA) ⟨E, st⟩ = .ok (.fr (.int n)) ⟨E, st⟩ := callM_ok (args1 (s' := ⟨E, st⟩) rfl) rfl o1
    have b : callM 2 e_check_shape (consA (vM 0) (consA (callM 1 e_own_size (consA (vM 0) nilA)) nilA)) ⟨E, st⟩ = .ok (.fr .non) ⟨E, st⟩ := callM_ok (argsS (s' := ⟨E, st⟩) rfl (args1 a)) rfl c1
    show drC _ ⟨E, st⟩ = _
    unfold drC
    rw [b, toS_ok]
  have e1 : callM 2 e_joined_shape (consA (vM 0) (consA (vM 0) nilA)) ⟨E, st⟩ = .ok (.loc (st.length + n)) ⟨E, S1⟩ := callM_ok (argsS (s' := ⟨E, st⟩) rfl (args1 rfl)) rfl j
  have e2 := lcM_mapG (mi := seqI (vM 0)) (bd := bName 1) (me := frN (cbM gList (consA (vM 1) nilA))) (vs := [1]) (s := ⟨E, S1⟩) (s0 := ⟨E, S1⟩) (xs := p) (fun r => W.fr (seqD t1 (r.map iO))) (fun r => W.fr (.lst (r.map iO)))
    (by rw [seqI_fr (m := vM 0) (s := ⟨E, S1⟩) (s0 := ⟨E, S1⟩) (d := A) (ds := (rowsD p).map (seqD t1)) rfl (items_seq _ _), List.map_map, List.map_map]; rfl) (by rw [small24, hp.1]; omega)
    (fun r _ => ⟨⟨[some (.fr A), some (.fr (seqD t1 (r.map iO)))], S1⟩, ⟨[some (.fr A), some (.fr (seqD t1 (r.map iO)))], S1⟩, rfl, by
      refine frN_eq (ds := r.map iO) ((cbM_ok (args1 (w := .fr (seqD t1 (r.map iO))) (s' := ⟨[some (.fr A), some (.fr (seqD t1 (r.map iO)))], S1⟩) rfl)).trans ?_)
      cases t1 <;> rfl, rfl⟩)
  have e3 := frN_eq (ds := (rowsD p).map D.lst) (e2.trans (by rw [List.map_map, List.map_map]; rfl))
  have dJ : deep ⟨E, S1⟩ (.loc (st.length + n)) = some (lstM' (rowsD J)) := by
    have := nest_deep E st (rowsD J)
    rw [List.length_map, lJ] at this
    show deep ⟨E, nestW st (ent J)⟩ _ = _
    rw [ent_eq]
    exact this
  have e4 : rtC (bM (callM 2 e_joined_shape (consA (vM 0) (consA (vM 0) nilA))) (frN (lcM (seqI (vM 0)) (bName 1) yesM (frN (cbM gList (consA (vM 1) nilA))) [1])) (eqG false)) ⟨E, st⟩ = .rt (.fr (.bl c)) ⟨E, S1⟩ :=
    rtC_ok ((bM_ok e1 e3).trans ((eqG_of dJ rfl hc).trans rfl))
  unfold e_is_stable runZ c_is_stable
  rw [seqC_nx e0, e4]
  show cutF st.length (.ok (.fr (.bl c)) (nestW st (ent J))) = _
  rw [show nestW st (ent J) = st ++ _ from List.append_assoc _ _ _]
  exact cut_app hcl rfl
def itemsS1 : List D := [.int 0, .int 1, .int 2, .int 3]
def itemsS2 : List D := [.int 3, .int 2, .int 1, .int 0, .int 1]
theorem itemsS_ok : ∀ d ∈ itemsS1 ++ itemsS2, ∃ o, d = iO o ∧ P3 o := by
  have q : ∀ v : Int, 0 ≤ v → v ≤ 3 → ∃ o, D.int v = iO o ∧ P3 o := fun v h0 h1 => ⟨some v, rfl, v, rfl, h0, h1⟩
  intro d hd
  simp only [itemsS1, itemsS2, List.cons_append, List.nil_append, List.mem_cons, List.not_mem_nil, or_false] at hd
  rcases hd with rfl | rfl | rfl | rfl | rfl | rfl | rfl | rfl | rfl <;> exact q _ (by decide) (by decide)
theorem eqG_bls (neg : Bool) (s : S) (c : Bool) : eqG neg s (.fr (.bl c)) (.fr (.bl c)) = .ok (.fr (.bl neg.not)) s := by
  refine (eqG_of (x := .bl c) (y := .bl c) (c := true) rfl rfl (by cases c <;> decide)).trans ?_
  cases neg <;> rfl
theorem shapes_right_ok {k n : Nat} {st0 st : List Cell} (hcl : Closed st0) (hk : k < st0.length) (h : BX k st0 st) (hn : n ≤ 10) :
    ∃ st', e__law_shapes_right [.loc k, .fr (.int n)] st = .ok (.fr (.bl true)) st' ∧ BX k st0 st' := by
  obtain ⟨rows1, s1, d1, b1, l1, m1⟩ := drawn_ok (items := itemsS1) (n := n) hcl hk h (by decide) (by decide) (by omega)
  obtain ⟨rows2, s2, d2, b2, l2, m2⟩ := drawn_ok (items := itemsS2) (n := n) hcl hk b1 (by decide) (by decide) (by omega)
  obtain ⟨one, rfl, q1⟩ := conv (items := itemsS1) (fun d hd => itemsS_ok d (List.mem_append_left _ hd)) (rows := rows1) fun r hr => (m1 r hr).2
  obtain ⟨other, rfl, q2⟩ := conv (items := itemsS2) (fun d hd => itemsS_ok d (List.mem_append_right _ hd)) (rows := rows2) fun r hr => (m2 r hr).2
  have w1 : M3 one n := ⟨by rw [← l1, List.length_map], fun r hr => ⟨by have := (m1 (r.map iO) (List.mem_map.mpr ⟨r, hr, rfl⟩)).1; rwa [List.length_map] at this, q1 r hr⟩⟩
  have w2 : M3 other n := ⟨by rw [← l2, List.length_map], fun r hr => ⟨by have := (m2 (r.map iO) (List.mem_map.mpr ⟨r, hr, rfl⟩)).1; rwa [List.length_map] at this, q2 r hr⟩⟩
  obtain ⟨t1, t2, s3, gv1, b3⟩ := given_ok (rows := rowsD one) hk b2 (by rw [List.length_map, w1.1]; omega)
  obtain ⟨t3, t4, s4, gv2, b4⟩ := given_ok (rows := rowsD other) hk b3 (by rw [List.length_map, w2.1]; omega)
  obtain ⟨F, hF⟩ : ∃ F, F = matD t1 t2 (rowsD one) := ⟨_, rfl⟩
  obtain ⟨G, hG⟩ : ∃ G, G = matD t3 t4 (rowsD other) := ⟨_, rfl⟩
  obtain ⟨x, hx⟩ : ∃ x, repD (.lst [F, G]) = some (.str x) := by
    rw [hF, hG]
    exact nice_pair hn (nice_rows w1.1 w1.bd) (nice_rows w2.1 w2.bd)
  have cl4 : Closed s4 := b4.closed hcl
  have len4 : s4.length = st0.length := b4.len
  obtain ⟨P, hP⟩ : ∃ P, P = tabO joinG one other n := ⟨_, rfl⟩
  have mP : M3 P n := by rw [hP]; exact join_small w1 w2
  obtain ⟨y, hy⟩ : ∃ y, repD (lstM' (rowsD P)) = some (.str y) := nice_one (t1 := false) (t2 := false) hn mP.1 mP.bd
  let E : Option W → Option W → Option W → Option W → Option W → List (Option W) := fun o6 o7 o8 o9 o10 => [some (.loc k), some (.fr (.int n)), some (.fr (lstM' (rowsD one))), some (.fr (lstM' (rowsD other))), some (.fr F), some (.fr G), o6, o7, o8, o9, o10]
  let X : Option W := some (.fr (.str x))
  have kept : ∀ (o6 o7 o8 o9 o10 : Option W) (s : List Cell), cbM gRepr (consA (frN (lstM (consA (vM 4) (consA (vM 5) nilA)))) nilA) ⟨E o6 o7 o8 o9 o10, s⟩ = .ok (.fr (.str x)) ⟨E o6 o7 o8 o9 o10, s⟩ := fun o6 o7 o8 o9 o10 s => by
    have f := frN_eq (m := lstM (consA (vM 4) (consA (vM 5) nilA))) (s := ⟨E o6 o7 o8 o9 o10, s⟩) (s' := ⟨E o6 o7 o8 o9 o10, s⟩) (ds := [F, G]) rfl
    exact (cbM_ok (args1 f)).trans (gRepr_ok rfl hx)
  let B : List (Option W) := [some (.loc k), some (.fr (.int n)), none, none, none, none, none, none, none, none, none]
  have a2 : parC 2 3 (consA (callM 3 e__law_drawn (consA (vM 0) (consA (vM 1) (consA (frN (lstM (consA (cM (.int 0)) (consA (cM (.int 1)) (consA (cM (.int 2)) (consA (cM (.int 3)) nilA)))))) nilA)))) (consA (callM 3 e__law_drawn (consA (vM 0) (consA (vM 1) (consA (frN (lstM (consA (cM (.int 3)) (consA (cM (.int 2)) (consA (cM (.int 1)) (consA (cM (.int 0)) (consA (cM (.int 1)) nilA))))))) nilA)))) nilA)) (startS 11 [.loc k, .fr (.int n)] st)
      = .nx ⟨[some (.loc k), some (.fr (.int n)), some (.fr (lstM' (rowsD one))), some (.fr (lstM' (rowsD other))), none, none, none, none, none, none, none], s2⟩ := by
    have ar : ∀ s : List Cell, consA (vM 0) (consA (vM 1) (consA (frN (lstM (consA (cM (.int 0)) (consA (cM (.int 1)) (consA (cM (.int 2)) (consA (cM (.int 3)) nilA)))))) nilA)) ⟨B, s⟩ = .ok [.loc k, .fr (.int n), .fr (.lst itemsS1)] ⟨B, s⟩ := fun s => rfl
    have ar' : ∀ s : List Cell, consA (vM 0) (consA (vM 1) (consA (frN (lstM (consA (cM (.int 3)) (consA (cM (.int 2)) (consA (cM (.int 1)) (consA (cM (.int 0)) (consA (cM (.int 1)) nilA))))))) nilA)) ⟨B, s⟩ = .ok [.loc k, .fr (.int n), .fr (.lst itemsS2)] ⟨B, s⟩ := fun s => rfl
    exact parC_ok (argsS (callM_ok (ar st) rfl d1) (args1 (callM_ok (ar' s1) rfl d2)))
  let C : List (Option W) := [some (.loc k), some (.fr (.int n)), some (.fr (lstM' (rowsD one))), some (.fr (lstM' (rowsD other))), none, none, none, none, none, none, none]
  have a3 : parC 4 5 (consA (callM 2 e__law_given (consA (vM 0) (consA (vM 2) nilA))) (consA (callM 2 e__law_given (consA (vM 0) (consA (vM 3) nilA))) nilA)) ⟨C, s2⟩ = .nx ⟨E none none none none none, s4⟩ := by
    have ar : ∀ s : List Cell, consA (vM 0) (consA (vM 2) nilA) ⟨C, s⟩ = .ok [.loc k, .fr (lstM' (rowsD one))] ⟨C, s⟩ := fun s => rfl
    have ar' : ∀ s : List Cell, consA (vM 0) (consA (vM 3) nilA) ⟨C, s⟩ = .ok [.loc k, .fr (lstM' (rowsD other))] ⟨C, s⟩ := fun s => rfl
    have := parC_ok (i := 4) (j := 5) (argsS (callM_ok (ar s2) rfl gv1) (args1 (callM_ok (ar' s3) rfl gv2)))
    rw [← hF, ← hG] at this
    exact this
  have mc := multiply_shapes_ok (t1 := t1) (t2 := t2) (t3 := t3) (t4 := t4) w1.1 w2.1 w1.len w2.len w1.small w2.small (by omega) s4
  rw [← hF, ← hG, ← hP, nestC_eq] at mc
  let R1 : Option W := some (.loc (s4.length + n))
  let S1 := nestW s4 (ent P)
  have c4 : callM 2 e_multiply_shapes (consA (vM 4) (consA (vM 5) nilA)) ⟨E none none none none none, s4⟩ = .ok (.loc (s4.length + n)) ⟨E none none none none none, S1⟩ := callM_ok (argsS (s' := ⟨E none none none none none, s4⟩) rfl (args1 rfl)) rfl mc
  have a4 : parC 6 7 (consA (cbM gRepr (consA (frN (lstM (consA (vM 4) (consA (vM 5) nilA)))) nilA)) (consA (callM 2 e_multiply_shapes (consA (vM 4) (consA (vM 5) nilA))) nilA)) ⟨E none none none none none, s4⟩ = .nx ⟨E X R1 none none none, S1⟩ :=
    parC_ok (i := 6) (j := 7) (argsS (kept none none none none none s4) (args1 c4))
  have dP : ∀ env, deep ⟨env, S1⟩ (.loc (s4.length + n)) = some (lstM' (rowsD P)) := fun env => by
    have := nest_deep env s4 (rowsD P)
    rw [List.length_map, mP.1] at this
    show deep ⟨env, nestW s4 (ent P)⟩ _ = _
    rw [ent_eq]
    exact this
  have pa := paths_ok w1.1 w2.1 w1.len w2.len w1.small.full w2.small.full (by omega) S1
  rw [← hP] at pa
  have a6 : ifC (fun s => asB ((bM (cbM gRepr (consA (vM 7) nilA)) (cbM gRepr (consA (callM 2 e__law_paths (consA (vM 2) (consA (vM 3) nilA))) nilA)) (eqG true)) s)) (rtC (cM (.bl false))) nxC ⟨E X R1 none none none, S1⟩ = .nx ⟨E X R1 none none none, S1⟩ := by
    have r1 : cbM gRepr (consA (vM 7) nilA) ⟨E X R1 none none none, S1⟩ = .ok (.fr (.str y)) ⟨E X R1 none none none, S1⟩ := (cbM_ok (args1 (w := .loc (s4.length + n)) (s' := ⟨E X R1 none none none, S1⟩) rfl)).trans (gRepr_ok (dP _) hy)
    have c : callM 2 e__law_paths (consA (vM 2) (consA (vM 3) nilA)) ⟨E X R1 none none none, S1⟩ = .ok (.fr (lstM' (rowsD P))) ⟨E X R1 none none none, S1⟩ := callM_ok (argsS (s' := ⟨E X R1 none none none, S1⟩) rfl (args1 rfl)) rfl pa
    have r2 : cbM gRepr (consA (callM 2 e__law_paths (consA (vM 2) (consA (vM 3) nilA))) nilA) ⟨E X R1 none none none, S1⟩ = .ok (.fr (.str y)) ⟨E X R1 none none none, S1⟩ := (cbM_ok (args1 c)).trans (gRepr_ok rfl hy)
    refine ifC_ff (asB_ok ((bM_ok r1 r2).trans ?_))
    rw [eqG_str]
    simp
  obtain ⟨o8, a7, _⟩ := longer_ok (i := 7) (j := 8) (c := 1) (st := s4) (ws := ent P) (env := E X R1 none none none) (by rw [ent_len, mP.1]; rfl) (by decide) (by show 8 < 11; decide) (fun w hw => by
    obtain ⟨r, hr, rfl⟩ := List.mem_map.mp hw
    rw [List.length_map, mP.len r hr]; omega)
  let S2 := nestW s4 ((ent P).map fun w => w ++ [W.fr (.int 1)])
  have lS2 : ((ent P).map fun w => w ++ [W.fr (.int 1)]).length = n := by rw [List.length_map, ent_len, mP.1]
  have a7' : forC (seqI (vM 7)) (bName 8) (appC (vM 8) (cM (.int 1))) ⟨E X R1 none none none, S1⟩ = .nx ⟨E X R1 o8 none none, S2⟩ := a7
  have cl2 : Closed S2 := nest_closed cl4 fun w hw => by
    obtain ⟨w', hw', rfl⟩ := List.mem_map.mp hw
    rw [ent_eq] at hw'
    obtain ⟨ds, _, rfl⟩ := List.mem_map.mp hw'
    exact ⟨ds ++ [.int 1], by simp⟩
  have a8 : ifC (fun s => asB ((bM (frN (lcM (seqI (vM 7)) (bName 8) yesM (cbM gLen (consA (vM 8) nilA)) [8])) (frN (repN (frN (lstM (consA (bM (vM 1) (cM (.int 1)) (op2 addD)) nilA))) (vM 1))) (eqG true)) s)) (rtC (cM (.bl false))) nxC ⟨E X R1 o8 none none, S2⟩ = .nx ⟨E X R1 o8 none none, S2⟩ := by
    have l := lens_ok (i := 7) (j := 8) (st := s4) (ws := (ent P).map fun w => w ++ [W.fr (.int 1)]) (env := E X R1 o8 none none) (by rw [lS2]; rfl) (by decide) (by show 8 < 11; decide) (by rw [lS2]; omega)
    rw [longer_lens mP.1 fun r h => mP.len r h] at l
    exact ifC_ff (asB_ok ((bM_ok l (many_ok (n := n) rfl (by omega))).trans ((eqG_of (x := .lst _) (y := .lst _) rfl rfl (lens_eq (by omega))).trans rfl)))
  let pw := fun p : List (List (Option Int)) => (some (W.fr (lstM' (rowsD p))) : Option W)
  have a9 : setC 9 (vM 2) ⟨E X R1 o8 none none, S2⟩ = .nx ⟨E X R1 o8 (pw one) none, S2⟩ := rfl
  have hk2 : k < S2.length := by show k < (nestW _ _).length; rw [nest_len, len4]; omega
  have hb2 : BX k S2 S2 := by
    obtain ⟨u, v, w, hu, hv, rfl⟩ := b4
    refine BX.refl (c := w) hu hv ?_
    show (nestW _ _)[k]? = _
    unfold nestW
    rw [List.append_assoc, List.getElem?_append_left (by rw [List.length_set]; exact hk), List.getElem?_set_self hk]
  have loop := forF_inv (ws := rngW 8) (bd := bName 10) (c := seqC (ifC (fun s => asB ((bM (callM 1 e_is_stable (consA (callM 2 e__law_given (consA (vM 0) (consA (vM 9) nilA))) nilA)) (bM (callM 2 e__law_paths (consA (vM 9) (consA (vM 9) nilA))) (vM 9) (eqG false)) (eqG true)) s)) (rtC (cM (.bl false))) nxC)
      (setC 9 (callM 2 e__law_paths (consA (vM 9) (consA (vM 9) nilA))))) (s := ⟨E X R1 o8 (pw one) none, S2⟩)
    (fun _ s => ∃ p T o10, s = ⟨E X R1 o8 (pw p) o10, T⟩ ∧ BX k S2 T ∧ M3 p n) ⟨one, S2, none, rfl, hb2, w1⟩ (by
      rintro i w _ hw ⟨p, T, o10, rfl, hT, mp⟩
      obtain ⟨u1, u2, T2, gv, hT2⟩ := given_ok (rows := rowsD p) hk2 hT (by rw [List.length_map, mp.1]; omega)
      have mj := join_small mp mp
      have nj : Nice 50 ((201 * n + 1) * n) 2 (lstM' (rowsD (tabO joinG p p n))) := nice_rows (t1 := false) (t2 := false) mj.1 mj.bd
      have np : Nice 50 ((201 * n + 1) * n) 2 (lstM' (rowsD p)) := nice_rows (t1 := false) (t2 := false) mp.1 mp.bd
      obtain ⟨c, ec, _⟩ := eqB_nice nj np (by decide) (by decide)
      have ec2 : eqB2 (lstM' (rowsD (tabO joinG p p n))) (lstM' (rowsD p)) = some c := ec
      have clT : Closed T2 := hT2.closed cl2
      have sb := is_stable_ok (t1 := u1) (t2 := u2) clT mp (by omega) ec2
      have pa := paths_ok mp.1 mp.1 mp.len mp.len mp.small.full mp.small.full (by omega) T2
      let E1 := E X R1 o8 (pw p) (some w)
      have g1 : callM 2 e__law_given (consA (vM 0) (consA (vM 9) nilA)) ⟨E1, T⟩ = .ok (.fr (matD u1 u2 (rowsD p))) ⟨E1, T2⟩ := callM_ok (argsS (s' := ⟨E1, T⟩) rfl (args1 rfl)) rfl gv
      have g2 : callM 1 e_is_stable (consA (callM 2 e__law_given (consA (vM 0) (consA (vM 9) nilA))) nilA) ⟨E1, T⟩ = .ok (.fr (.bl c)) ⟨E1, T2⟩ := callM_ok (args1 g1) rfl sb
      have g3 : callM 2 e__law_paths (consA (vM 9) (consA (vM 9) nilA)) ⟨E1, T2⟩ = .ok (.fr (lstM' (rowsD (tabO joinG p p n)))) ⟨E1, T2⟩ := callM_ok (argsS (s' := ⟨E1, T2⟩) rfl (args1 rfl)) rfl pa
      have g4 : bM (callM 2 e__law_paths (consA (vM 9) (consA (vM 9) nilA))) (vM 9) (eqG false) ⟨E1, T2⟩ = .ok (.fr (.bl c)) ⟨E1, T2⟩ := (bM_ok (mb := vM 9) (b := .fr (lstM' (rowsD p))) (s2 := ⟨E1, T2⟩) g3 rfl).trans ((eqG_of rfl rfl ec2).trans rfl)
      refine ⟨⟨E1, T⟩, ⟨E X R1 o8 (pw (tabO joinG p p n)) (some w), T2⟩, rfl, .inl ?_, _, _, _, rfl, hT2, mj⟩
      refine (seqC_nx (ifC_ff (asB_ok ((bM_ok g2 g4).trans (eqG_bls true ⟨E1, T2⟩ c))))).trans ?_
      exact setC_ok g3)
  obtain ⟨s', q, p, T, o10, rfl, hT, mp⟩ := loop
  have a10 : forC (rngI1 (consA (cM (.int 8)) nilA)) (bName 10) (seqC (ifC (fun s => asB ((bM (callM 1 e_is_stable (consA (callM 2 e__law_given (consA (vM 0) (consA (vM 9) nilA))) nilA)) (bM (callM 2 e__law_paths (consA (vM 9) (consA (vM 9) nilA))) (vM 9) (eqG false)) (eqG true)) s)) (rtC (cM (.bl false))) nxC)
      (setC 9 (callM 2 e__law_paths (consA (vM 9) (consA (vM 9) nilA))))) ⟨E X R1 o8 (pw one) none, S2⟩ = .nx ⟨E X R1 o8 (pw p) o10, T⟩ := forC_ok (rngI1_ok (n := 8) rfl (by decide)) q
  have a11 : rtC (bM (cbM gRepr (consA (frN (lstM (consA (vM 4) (consA (vM 5) nilA)))) nilA)) (vM 6) (eqG false)) ⟨E X R1 o8 (pw p) o10, T⟩ = .rt (.fr (.bl true)) ⟨E X R1 o8 (pw p) o10, T⟩ := by
    refine rtC_ok ((bM_ok (mb := vM 6) (b := .fr (.str x)) (s2 := ⟨E X R1 o8 (pw p) o10, T⟩) (kept X R1 o8 (pw p) o10 T) rfl).trans ?_)
    rw [eqG_str]
    simp
  obtain ⟨ua, ub, uc, hua, hub, hTe⟩ := hT
  have eS2 : S2 = s4 ++ (((ent P).map fun w => w ++ [W.fr (.int 1)]).map Cell.lst ++ [rootC s4.length ((ent P).map fun w => w ++ [W.fr (.int 1)]).length]) := List.append_assoc _ _ _
  have hk4 : k < s4.length := by rw [len4]; exact hk
  have hT3 : T = s4.set k (boxC ua ub uc) ++ (((ent P).map fun w => w ++ [W.fr (.int 1)]).map Cell.lst ++ [rootC s4.length ((ent P).map fun w => w ++ [W.fr (.int 1)]).length]) := by
    rw [hTe, eS2, List.set_append_left _ _ hk4]
  have b5 : BX k s4 (s4.set k (boxC ua ub uc)) := ⟨ua, ub, uc, hua, hub, rfl⟩
  refine ⟨s4.set k (boxC ua ub uc), ?_, b4.trans b5⟩
  unfold e__law_shapes_right runZ c__law_shapes_right
  rw [seqC_nx a2, seqC_nx a3, seqC_nx a4, seqC_nx a6, seqC_nx a7', seqC_nx a8, seqC_nx a9, seqC_nx a10, a11]
  show cutF st.length (.ok (.fr (.bl true)) T) = _
  rw [hT3]
  exact cut_app (b5.closed cl4) (by rw [List.length_set, len4, h.len])
end K35
namespace K35
open PySem PySem.Spec PyProof.Rows L2 Z
theorem cell_val (ns : List Int) (k : Nat) (st : List Cell) : ∃ c, e__law_cell [.fr (.scr ns), .fr (.int k)] st = .ok (.fr (.int c)) st := by
  by_cases hk : k < ns.length
  · refine ⟨ns[k], runZ_rt (s := ⟨[some (.fr (.scr ns)), some (.fr (.int k))], st⟩) ?_ rfl⟩
    have a := atI_nat hk
    have h2 : (k : Int) < ns.length := by omega
    simp [c__law_cell, startS_eq, rtC, setC, drC, ifC, parC, asgC, put, then_ok', toS_ok, bM, vM_eq, cM, op2, consA, nilA, cbM, g1, g2, view_fr, iop_int, asB_bl, mN, mNt, isN_non, isN_int, isN_lst, ifM, Z.orM, Z.andM, Z.notM, andV, orV, notV, trM, truW_fr, truD, ixM, ixW_fr, ixD, callM, callW, gLen, lenW_fr, lenD, frN, frLst, loN, loLst, lstM, tupM, frzA, fzM, frz1_fr, isM, gIs, tyW_fr, tyD, isTy, addD_int, eqG_int, List.map, List.length, List.cons_append, List.nil_append, List.append_nil, List.getElem?_cons_zero, List.getElem?_cons_succ, List.set_cons_zero, List.set_cons_succ, List.replicate, h2, seqC, a]
  · refine ⟨6007 * k + 89, runZ_rt (s := ⟨[some (.fr (.scr ns)), some (.fr (.int k))], st⟩) ?_ rfl⟩
    have h2 : ¬ (k : Int) < ns.length := by omega
    have m : mulC 6007 k = true := by simp [mulC]
    simp [c__law_cell, startS_eq, rtC, setC, drC, ifC, parC, asgC, put, then_ok', toS_ok, bM, vM_eq, cM, op2, consA, nilA, cbM, g1, g2, view_fr, iop_int, asB_bl, mN, mNt, isN_non, isN_int, isN_lst, ifM, Z.orM, Z.andM, Z.notM, andV, orV, notV, trM, truW_fr, truD, ixM, ixW_fr, ixD, callM, callW, gLen, lenW_fr, lenD, frN, frLst, loN, loLst, lstM, tupM, frzA, fzM, frz1_fr, isM, gIs, tyW_fr, tyD, isTy, addD_int, eqG_int, List.map, List.length, List.cons_append, List.nil_append, List.append_nil, List.getElem?_cons_zero, List.getElem?_cons_succ, List.set_cons_zero, List.set_cons_succ, List.replicate, h2, seqC, nxC, m]
theorem box_val (c : Int) (st : List Cell) : ∃ a b : Int, 0 ≤ a ∧ 0 ≤ b ∧ e__law_box [.fr (.int c)] st = .ok (.loc st.length) (st ++ [boxC a b 0]) := by
  refine ⟨if c - 10 ^ 18 > 0 then c - 10 ^ 18 else 0, c % 2147483629, by split <;> omega, Int.emod_nonneg _ (by decide), ?_⟩
  refine runZ_new (s := ⟨[some (.fr (.int c))], st ++ [boxC (if c - 10 ^ 18 > 0 then c - 10 ^ 18 else 0) (c % 2147483629) 0]⟩) ?_ (Nat.le_refl _)
  have p1 : powC 10 18 = true := by decide
  have s3 : (3 : Nat) ≤ sizeLine := by decide
  simp [c__law_box, startS_eq, rtC, setC, drC, ifC, parC, asgC, put, then_ok', toS_ok, bM, vM_eq, cM, op2, consA, nilA, cbM, g1, g2, view_fr, iop_int, asB_bl, mN, mNt, isN_non, isN_int, isN_lst, ifM, Z.orM, Z.andM, Z.notM, andV, orV, notV, trM, truW_fr, truD, ixM, ixW_fr, ixD, callM, callW, gLen, lenW_fr, lenD, frN, frLst, loN, loLst, lstM, tupM, frzA, fzM, frz1_fr, isM, gIs, tyW_fr, tyD, isTy, addD_int, eqG_int, List.map, List.length, List.cons_append, List.nil_append, List.append_nil, List.getElem?_cons_zero, List.getElem?_cons_succ, List.set_cons_zero, List.set_cons_succ, List.replicate, p1, s3, boxC]
theorem law_ok (ns : List Int) (hns : ns.length ≤ 63) : ∃ st, e_law [.fr (.scr ns)] [] = .ok (.fr (.bl true)) st := by
  let E : Option W → Option W → Option W → List (Option W) := fun a b c => [some (.fr (.scr ns)), a, b, c]
  let sizes : List D := [.int 0, .int 1, .int 2, .int 3, .int 4, .int 5, .int 6, .int 9]
  obtain ⟨m, hm, hm2⟩ : ∃ m : Nat, m < 2 ^ 62 ∧ rngI1 (consA (cbM (g2 max2D) (consA (cM (.int 3)) (consA (cbM (g2 min2D) (consA (cbM gLen (consA (vM 0) nilA)) (consA (cM (.int 12)) nilA))) nilA))) nilA) ⟨E none none none, []⟩ = .ok (.fx (rngW m)) ⟨E none none none, []⟩ := by
    let u : Int := if (12 : Int) < ns.length then 12 else ns.length
    let v : Int := if u > 3 then u else 3
    have hv : 0 ≤ v ∧ v < 100 := by
      show 0 ≤ (if u > 3 then u else 3) ∧ (if u > 3 then u else 3) < 100
      have hu : u ≤ 63 := by
        show (if (12 : Int) < ns.length then (12 : Int) else ns.length) ≤ 63
        split <;> omega
      split <;> omega
    refine ⟨v.toNat, by omega, rngI1_ok ?_ (by omega)⟩
    have hvn : ((v.toNat : Nat) : Int) = v := Int.toNat_of_nonneg hv.1
    rw [hvn]
    refine args1 ?_
    have l0 : cbM gLen (consA (vM 0) nilA) ⟨E none none none, []⟩ = .ok (.fr (.int ns.length)) ⟨E none none none, []⟩ := (cbM_ok (args1 (w := .fr (.scr ns)) (s' := ⟨E none none none, []⟩) rfl)).trans rfl
    have l1 : cbM (g2 min2D) (consA (cbM gLen (consA (vM 0) nilA)) (consA (cM (.int 12)) nilA)) ⟨E none none none, []⟩ = .ok (.fr (.int u)) ⟨E none none none, []⟩ := (cbM_ok (argsS l0 (args1 (w := .fr (.int 12)) (s' := ⟨E none none none, []⟩) rfl))).trans rfl
    exact (cbM_ok (argsS (w := .fr (.int 3)) (s' := ⟨E none none none, []⟩) rfl (args1 l1))).trans rfl
  -- one box
  have inner : ∀ (i : Nat) (st : List Cell) (a b : Int) (o3 : Option W), Closed st → 0 ≤ a → 0 ≤ b → ∃ T o3', forC (seqI (frN (lstM (consA (cM (.int 0)) (consA (cM (.int 1)) (consA (cM (.int 2)) (consA (cM (.int 3)) (consA (cM (.int 4)) (consA (cM (.int 5)) (consA (cM (.int 6)) (consA (cM (.int 9)) nilA))))))))))) (bName 3)
      (ifC (Z.orM (Z.notM (trM (callM 2 e__law_costs_right (consA (vM 2) (consA (vM 3) nilA))))) (Z.notM (trM (callM 2 e__law_shapes_right (consA (vM 2) (consA (vM 3) nilA)))))) (rtC (cM (.bl false))) nxC)
      ⟨E (some (.fr (.int (i : Nat)))) (some (.loc st.length)) o3, st ++ [boxC a b 0]⟩ = .nx ⟨E (some (.fr (.int (i : Nat)))) (some (.loc st.length)) o3', T⟩ ∧ Closed T := by
    intro i st a b o3 hc ha hb
    have hcl : Closed (st ++ [boxC a b 0]) := hc.app rfl
    have hk : st.length < (st ++ [boxC a b 0]).length := by simp
    have hi : seqI (frN (lstM (consA (cM (.int 0)) (consA (cM (.int 1)) (consA (cM (.int 2)) (consA (cM (.int 3)) (consA (cM (.int 4)) (consA (cM (.int 5)) (consA (cM (.int 6)) (consA (cM (.int 9)) nilA)))))))))) ⟨E (some (.fr (.int (i : Nat)))) (some (.loc st.length)) o3, st ++ [boxC a b 0]⟩ = .ok (.fx (sizes.map W.fr)) ⟨E (some (.fr (.int (i : Nat)))) (some (.loc st.length)) o3, st ++ [boxC a b 0]⟩ := rfl
    obtain ⟨s', q, T, o, rfl, hT⟩ := forF_inv (ws := sizes.map W.fr) (bd := bName 3) (c := ifC (Z.orM (Z.notM (trM (callM 2 e__law_costs_right (consA (vM 2) (consA (vM 3) nilA))))) (Z.notM (trM (callM 2 e__law_shapes_right (consA (vM 2) (consA (vM 3) nilA)))))) (rtC (cM (.bl false))) nxC)
      (s := ⟨E (some (.fr (.int (i : Nat)))) (some (.loc st.length)) o3, st ++ [boxC a b 0]⟩)
      (fun _ s => ∃ T o, s = ⟨E (some (.fr (.int (i : Nat)))) (some (.loc st.length)) o, T⟩ ∧ BX st.length (st ++ [boxC a b 0]) T) ⟨_, _, rfl, BX.refl ha hb (cells_app rfl)⟩ (by
        rintro j w _ hw ⟨T, o, rfl, hT⟩
        have hmem := List.mem_of_getElem? hw
        obtain ⟨n, rfl, hn⟩ : ∃ n : Nat, w = .fr (.int n) ∧ n ≤ 10 := by
          obtain ⟨d, hd, rfl⟩ := List.mem_map.mp hmem
          simp only [sizes, List.mem_cons, List.not_mem_nil, or_false] at hd
          rcases hd with rfl | rfl | rfl | rfl | rfl | rfl | rfl | rfl
          · exact ⟨0, rfl, by decide⟩
          · exact ⟨1, rfl, by decide⟩
          · exact ⟨2, rfl, by decide⟩
          · exact ⟨3, rfl, by decide⟩
          · exact ⟨4, rfl, by decide⟩
          · exact ⟨5, rfl, by decide⟩
          · exact ⟨6, rfl, by decide⟩
          · exact ⟨9, rfl, by decide⟩
        obtain ⟨T1, c1, hT1⟩ := costs_right_ok hcl hk hT hn
        obtain ⟨T2, c2, hT2⟩ := shapes_right_ok hcl hk hT1 hn
        let E1 := E (some (.fr (.int (i : Nat)))) (some (.loc st.length)) (some (.fr (.int (n : Nat))))
        have f1 : callM 2 e__law_costs_right (consA (vM 2) (consA (vM 3) nilA)) ⟨E1, T⟩ = .ok (.fr (.bl true)) ⟨E1, T1⟩ := callM_ok (argsS (s' := ⟨E1, T⟩) rfl (args1 rfl)) rfl c1
        have f2 : callM 2 e__law_shapes_right (consA (vM 2) (consA (vM 3) nilA)) ⟨E1, T1⟩ = .ok (.fr (.bl true)) ⟨E1, T2⟩ := callM_ok (argsS (s' := ⟨E1, T1⟩) rfl (args1 rfl)) rfl c2
        refine ⟨⟨E1, T⟩, ⟨E1, T2⟩, rfl, .inl (ifC_ff (orM_ff (s' := ⟨E1, T1⟩) ?_ (s'' := ⟨E1, T2⟩) ?_)), T2, _, rfl, hT2⟩
        · unfold Z.notM trM
          rw [f1]
          rfl
        · unfold Z.notM trM
          rw [f2]
          rfl)
    exact ⟨T, o, forC_ok hi q, hT.closed hcl⟩
  obtain ⟨s', q, a, b, c, st, rfl, hc⟩ := forF_inv (ws := rngW m) (bd := bName 1) (c := seqC (setC 2 (callM 1 e__law_box (consA (callM 2 e__law_cell (consA (vM 0) (consA (vM 1) nilA))) nilA)))
    (forC (seqI (frN (lstM (consA (cM (.int 0)) (consA (cM (.int 1)) (consA (cM (.int 2)) (consA (cM (.int 3)) (consA (cM (.int 4)) (consA (cM (.int 5)) (consA (cM (.int 6)) (consA (cM (.int 9)) nilA))))))))))) (bName 3)
      (ifC (Z.orM (Z.notM (trM (callM 2 e__law_costs_right (consA (vM 2) (consA (vM 3) nilA))))) (Z.notM (trM (callM 2 e__law_shapes_right (consA (vM 2) (consA (vM 3) nilA)))))) (rtC (cM (.bl false))) nxC)))
    (s := ⟨E none none none, []⟩) (fun _ s => ∃ a b c st, s = ⟨E a b c, st⟩ ∧ Closed st) ⟨_, _, _, _, rfl, Closed.nil⟩ (by
      rintro i w _ hw ⟨a, b, c, st, rfl, hc⟩
      have hlt := (List.getElem?_eq_some_iff.mp hw).1
      rw [rngW_length] at hlt
      have hwi : w = .fr (.int (i : Nat)) := by
        rw [rngW_eq, List.getElem?_map, List.getElem?_range hlt] at hw
        exact (Option.some.inj hw).symm
      subst hwi
      obtain ⟨v, hv⟩ := cell_val ns i st
      obtain ⟨x, y, hx, hy, hb⟩ := box_val v st
      let E1 := E (some (.fr (.int (i : Nat)))) b c
      have f1 : callM 2 e__law_cell (consA (vM 0) (consA (vM 1) nilA)) ⟨E1, st⟩ = .ok (.fr (.int v)) ⟨E1, st⟩ := callM_ok (argsS (s' := ⟨E1, st⟩) rfl (args1 rfl)) rfl hv
      have f2 : callM 1 e__law_box (consA (callM 2 e__law_cell (consA (vM 0) (consA (vM 1) nilA))) nilA) ⟨E1, st⟩ = .ok (.loc st.length) ⟨E1, st ++ [boxC x y 0]⟩ := callM_ok (args1 f1) rfl hb
      obtain ⟨T, o3, q, hT⟩ := inner i st x y c hc hx hy
      exact ⟨⟨E1, st⟩, _, rfl, .inl ((seqC_nx (setC_ok f2)).trans q), _, _, _, _, rfl, hT⟩)
  have a2 : rtC (cM (.bl true)) ⟨E a b c, st⟩ = .rt (.fr (.bl true)) ⟨E a b c, st⟩ := rfl
  unfold e_law runZ c_law
  rw [show startS 4 [W.fr (.scr ns)] [] = ⟨E none none none, []⟩ from rfl, seqC_nx (forC_ok hm2 q), a2]
  show ∃ st', cutF 0 (.ok (.fr (.bl true)) st) = .ok (.fr (.bl true)) st'
  unfold cutF
  dsimp only
  split <;> exact ⟨_, rfl⟩
end K35
namespace K35
open PySem PySem.Spec PyProof.Rows L2 Z
section
variable {P : Program} {w : World} {K : PySem.W.Frag} {mg : Str → Option Value} {base : Heap}
theorem v_all (T : Txt K mg) : FnV true P w K mg base 7 T.f_law T.fd_law ["_law_script"] (spZ K 1 e_law) := by
  have V__law_box : FnV false P w K mg base 1 T.f__law_box T.fd__law_box ["_law_cell_here"] (spZ K 1 e__law_box) := v__law_box T
  have V__law_cell : FnV false P w K mg base 1 T.f__law_cell T.fd__law_cell ["_law_script", "_law_k"] (spZ K 2 e__law_cell) := v__law_cell T
  have V_least : FnV false P w K mg base 1 T.f_least T.fd_least ["values"] (spZ K 1 e_least) := v_least T
  have V_added : FnV false P w K mg base 1 T.f_added T.fd_added ["one", "other"] (spZ K 2 e_added) := v_added T
  have V_product_of : FnV false P w K mg base 2 T.f_product_of T.fd_product_of ["one", "other"] (spZ K 2 e_product_of) := v_product_of T V_added V_least
  have V_is_square : FnV false P w K mg base 1 T.f_is_square T.fd_is_square ["value", "size"] (spZ K 2 e_is_square) := v_is_square T
  have V_is_integer : FnV false P w K mg base 1 T.f_is_integer T.fd_is_integer ["value"] (spZ K 1 e_is_integer) := v_is_integer T
  have V_is_matrix : FnV false P w K mg base 2 T.f_is_matrix T.fd_is_matrix ["value", "size"] (spZ K 2 e_is_matrix) := v_is_matrix T V_is_square V_is_integer
  have V_own_size : FnV false P w K mg base 1 T.f_own_size T.fd_own_size ["value"] (spZ K 1 e_own_size) := v_own_size T
  have V_multiply_costs : FnV false P w K mg base 3 T.f_multiply_costs T.fd_multiply_costs ["one", "other"] (spZ K 2 e_multiply_costs) := v_multiply_costs T V_own_size V_is_matrix V_product_of
  have V_shape_of : FnV false P w K mg base 3 T.f_shape_of T.fd_shape_of ["matrix"] (spZ K 1 e_shape_of) := v_shape_of T V_own_size V_is_matrix
  have V__law_take : FnV false P w K mg base 1 T.f__law_take T.fd__law_take ["_law_box_here", "_law_size"] (spZ K 2 e__law_take) := v__law_take T
  have V__law_drawn : FnV false P w K mg base 2 T.f__law_drawn T.fd__law_drawn ["_law_box_here", "_law_size", "_law_items"] (spZ K 3 e__law_drawn) := v__law_drawn T V__law_take
  have V__law_given : FnV false P w K mg base 2 T.f__law_given T.fd__law_given ["_law_box_here", "_law_matrix"] (spZ K 2 e__law_given) := v__law_given T V__law_take
  have V__law_sums : FnV false P w K mg base 1 T.f__law_sums T.fd__law_sums ["_law_one", "_law_other"] (spZ K 2 e__law_sums) := v__law_sums T
  have V__law_costs_right : FnV true P w K mg base 4 T.f__law_costs_right T.fd__law_costs_right ["_law_box_here", "_law_size"] (spZ K 2 e__law_costs_right) := v__law_costs_right T V__law_drawn V__law_given V_multiply_costs V__law_sums V_shape_of
  have V_is_between : FnV false P w K mg base 2 T.f_is_between T.fd_is_between ["value", "low", "high"] (spZ K 3 e_is_between) := v_is_between T V_is_integer
  have V_is_shape : FnV false P w K mg base 3 T.f_is_shape T.fd_is_shape ["value", "size"] (spZ K 2 e_is_shape) := v_is_shape T V_is_square V_is_between
  have V_check_shape : FnV false P w K mg base 4 T.f_check_shape T.fd_check_shape ["shape", "size"] (spZ K 2 e_check_shape) := v_check_shape T V_is_shape
  have V_joined_shape : FnV false P w K mg base 1 T.f_joined_shape T.fd_joined_shape ["one", "other"] (spZ K 2 e_joined_shape) := v_joined_shape T
  have V_multiply_shapes : FnV false P w K mg base 5 T.f_multiply_shapes T.fd_multiply_shapes ["one", "other"] (spZ K 2 e_multiply_shapes) := v_multiply_shapes T V_own_size V_check_shape V_joined_shape
  have V__law_paths : FnV false P w K mg base 1 T.f__law_paths T.fd__law_paths ["_law_one", "_law_other"] (spZ K 2 e__law_paths) := v__law_paths T
  have V_is_stable : FnV false P w K mg base 5 T.f_is_stable T.fd_is_stable ["shape"] (spZ K 1 e_is_stable) := v_is_stable T V_own_size V_check_shape V_joined_shape
  have V__law_shapes_right : FnV true P w K mg base 6 T.f__law_shapes_right T.fd__law_shapes_right ["_law_box_here", "_law_size"] (spZ K 2 e__law_shapes_right) := v__law_shapes_right T V__law_drawn V__law_given V_multiply_shapes V__law_paths V_is_stable
  have V_law : FnV true P w K mg base 7 T.f_law T.fd_law ["_law_script"] (spZ K 1 e_law) := v_law T V__law_cell V__law_box V__law_costs_right V__law_shapes_right
  exact V_law
end
theorem all_mk {K : PySem.W.Frag} {h : Heap} {mg : Str → Option Value} {fa : Addr} (X : K.In h) (G : h.Ns mainGlobals mg) (hfa : mg "law" = some (.ref fa))
    {f0 : Addr} {od0 an0 : Option Addr} {sl0 : Array (Option Value)} {oc0 kV0 dc0 pm0 cd0 ct0 : Value}
    (a0 : PySem.W.nsIn K mainGlobals "_law_box" = some (some (.ref f0))) (l0 : K.lookup f0 = some ⟨oc0, od0, .func (PySem.W.fnOf "_law_box" "_law_box" (defArgs (top 25)) (defBody (top 25)) (defScope (top 25)) .none kV0 dc0 pm0 an0 cd0 ct0), sl0⟩) (c0 : PySem.W.codeIn K cd0 "_law_box" = true) (k0 : PySem.W.keepIn K (.ref f0) = true)
    {f1 : Addr} {od1 an1 : Option Addr} {sl1 : Array (Option Value)} {oc1 kV1 dc1 pm1 cd1 ct1 : Value}
    (a1 : PySem.W.nsIn K mainGlobals "_law_cell" = some (some (.ref f1))) (l1 : K.lookup f1 = some ⟨oc1, od1, .func (PySem.W.fnOf "_law_cell" "_law_cell" (defArgs (top 24)) (defBody (top 24)) (defScope (top 24)) .none kV1 dc1 pm1 an1 cd1 ct1), sl1⟩) (c1 : PySem.W.codeIn K cd1 "_law_cell" = true) (k1 : PySem.W.keepIn K (.ref f1) = true)
    {f2 : Addr} {od2 an2 : Option Addr} {sl2 : Array (Option Value)} {oc2 kV2 dc2 pm2 cd2 ct2 : Value}
    (a2 : PySem.W.nsIn K mainGlobals "least" = some (some (.ref f2))) (l2 : K.lookup f2 = some ⟨oc2, od2, .func (PySem.W.fnOf "least" "least" (defArgs (top 10)) (defBody (top 10)) (defScope (top 10)) .none kV2 dc2 pm2 an2 cd2 ct2), sl2⟩) (c2 : PySem.W.codeIn K cd2 "least" = true) (k2 : PySem.W.keepIn K (.ref f2) = true)
    {f3 : Addr} {od3 an3 : Option Addr} {sl3 : Array (Option Value)} {oc3 kV3 dc3 pm3 cd3 ct3 : Value}
    (a3 : PySem.W.nsIn K mainGlobals "added" = some (some (.ref f3))) (l3 : K.lookup f3 = some ⟨oc3, od3, .func (PySem.W.fnOf "added" "added" (defArgs (top 11)) (defBody (top 11)) (defScope (top 11)) .none kV3 dc3 pm3 an3 cd3 ct3), sl3⟩) (c3 : PySem.W.codeIn K cd3 "added" = true) (k3 : PySem.W.keepIn K (.ref f3) = true)
    {f4 : Addr} {od4 an4 : Option Addr} {sl4 : Array (Option Value)} {oc4 kV4 dc4 pm4 cd4 ct4 : Value}
    (a4 : PySem.W.nsIn K mainGlobals "product_of" = some (some (.ref f4))) (l4 : K.lookup f4 = some ⟨oc4, od4, .func (PySem.W.fnOf "product_of" "product_of" (defArgs (top 12)) (defBody (top 12)) (defScope (top 12)) .none kV4 dc4 pm4 an4 cd4 ct4), sl4⟩) (c4 : PySem.W.codeIn K cd4 "product_of" = true) (k4 : PySem.W.keepIn K (.ref f4) = true)
    {f5 : Addr} {od5 an5 : Option Addr} {sl5 : Array (Option Value)} {oc5 kV5 dc5 pm5 cd5 ct5 : Value}
    (a5 : PySem.W.nsIn K mainGlobals "is_square" = some (some (.ref f5))) (l5 : K.lookup f5 = some ⟨oc5, od5, .func (PySem.W.fnOf "is_square" "is_square" (defArgs (top 13)) (defBody (top 13)) (defScope (top 13)) .none kV5 dc5 pm5 an5 cd5 ct5), sl5⟩) (c5 : PySem.W.codeIn K cd5 "is_square" = true) (k5 : PySem.W.keepIn K (.ref f5) = true)
    {f6 : Addr} {od6 an6 : Option Addr} {sl6 : Array (Option Value)} {oc6 kV6 dc6 pm6 cd6 ct6 : Value}
    (a6 : PySem.W.nsIn K mainGlobals "is_integer" = some (some (.ref f6))) (l6 : K.lookup f6 = some ⟨oc6, od6, .func (PySem.W.fnOf "is_integer" "is_integer" (defArgs (top 4)) (defBody (top 4)) (defScope (top 4)) .none kV6 dc6 pm6 an6 cd6 ct6), sl6⟩) (c6 : PySem.W.codeIn K cd6 "is_integer" = true) (k6 : PySem.W.keepIn K (.ref f6) = true)
    {f7 : Addr} {od7 an7 : Option Addr} {sl7 : Array (Option Value)} {oc7 kV7 dc7 pm7 cd7 ct7 : Value}
    (a7 : PySem.W.nsIn K mainGlobals "is_matrix" = some (some (.ref f7))) (l7 : K.lookup f7 = some ⟨oc7, od7, .func (PySem.W.fnOf "is_matrix" "is_matrix" (defArgs (top 14)) (defBody (top 14)) (defScope (top 14)) .none kV7 dc7 pm7 an7 cd7 ct7), sl7⟩) (c7 : PySem.W.codeIn K cd7 "is_matrix" = true) (k7 : PySem.W.keepIn K (.ref f7) = true)
    {f8 : Addr} {od8 an8 : Option Addr} {sl8 : Array (Option Value)} {oc8 kV8 dc8 pm8 cd8 ct8 : Value}
    (a8 : PySem.W.nsIn K mainGlobals "own_size" = some (some (.ref f8))) (l8 : K.lookup f8 = some ⟨oc8, od8, .func (PySem.W.fnOf "own_size" "own_size" (defArgs (top 16)) (defBody (top 16)) (defScope (top 16)) .none kV8 dc8 pm8 an8 cd8 ct8), sl8⟩) (c8 : PySem.W.codeIn K cd8 "own_size" = true) (k8 : PySem.W.keepIn K (.ref f8) = true)
    {f9 : Addr} {od9 an9 : Option Addr} {sl9 : Array (Option Value)} {oc9 kV9 dc9 pm9 cd9 ct9 : Value}
    (a9 : PySem.W.nsIn K mainGlobals "multiply_costs" = some (some (.ref f9))) (l9 : K.lookup f9 = some ⟨oc9, od9, .func (PySem.W.fnOf "multiply_costs" "multiply_costs" (defArgs (top 17)) (defBody (top 17)) (defScope (top 17)) .none kV9 dc9 pm9 an9 cd9 ct9), sl9⟩) (c9 : PySem.W.codeIn K cd9 "multiply_costs" = true) (k9 : PySem.W.keepIn K (.ref f9) = true)
    {f10 : Addr} {od10 an10 : Option Addr} {sl10 : Array (Option Value)} {oc10 kV10 dc10 pm10 cd10 ct10 : Value}
    (a10 : PySem.W.nsIn K mainGlobals "shape_of" = some (some (.ref f10))) (l10 : K.lookup f10 = some ⟨oc10, od10, .func (PySem.W.fnOf "shape_of" "shape_of" (defArgs (top 18)) (defBody (top 18)) (defScope (top 18)) .none kV10 dc10 pm10 an10 cd10 ct10), sl10⟩) (c10 : PySem.W.codeIn K cd10 "shape_of" = true) (k10 : PySem.W.keepIn K (.ref f10) = true)
    {f11 : Addr} {od11 an11 : Option Addr} {sl11 : Array (Option Value)} {oc11 kV11 dc11 pm11 cd11 ct11 : Value}
    (a11 : PySem.W.nsIn K mainGlobals "_law_take" = some (some (.ref f11))) (l11 : K.lookup f11 = some ⟨oc11, od11, .func (PySem.W.fnOf "_law_take" "_law_take" (defArgs (top 26)) (defBody (top 26)) (defScope (top 26)) .none kV11 dc11 pm11 an11 cd11 ct11), sl11⟩) (c11 : PySem.W.codeIn K cd11 "_law_take" = true) (k11 : PySem.W.keepIn K (.ref f11) = true)
    {f12 : Addr} {od12 an12 : Option Addr} {sl12 : Array (Option Value)} {oc12 kV12 dc12 pm12 cd12 ct12 : Value}
    (a12 : PySem.W.nsIn K mainGlobals "_law_drawn" = some (some (.ref f12))) (l12 : K.lookup f12 = some ⟨oc12, od12, .func (PySem.W.fnOf "_law_drawn" "_law_drawn" (defArgs (top 27)) (defBody (top 27)) (defScope (top 27)) .none kV12 dc12 pm12 an12 cd12 ct12), sl12⟩) (c12 : PySem.W.codeIn K cd12 "_law_drawn" = true) (k12 : PySem.W.keepIn K (.ref f12) = true)
    {f13 : Addr} {od13 an13 : Option Addr} {sl13 : Array (Option Value)} {oc13 kV13 dc13 pm13 cd13 ct13 : Value}
    (a13 : PySem.W.nsIn K mainGlobals "_law_given" = some (some (.ref f13))) (l13 : K.lookup f13 = some ⟨oc13, od13, .func (PySem.W.fnOf "_law_given" "_law_given" (defArgs (top 28)) (defBody (top 28)) (defScope (top 28)) .none kV13 dc13 pm13 an13 cd13 ct13), sl13⟩) (c13 : PySem.W.codeIn K cd13 "_law_given" = true) (k13 : PySem.W.keepIn K (.ref f13) = true)
    {f14 : Addr} {od14 an14 : Option Addr} {sl14 : Array (Option Value)} {oc14 kV14 dc14 pm14 cd14 ct14 : Value}
    (a14 : PySem.W.nsIn K mainGlobals "_law_sums" = some (some (.ref f14))) (l14 : K.lookup f14 = some ⟨oc14, od14, .func (PySem.W.fnOf "_law_sums" "_law_sums" (defArgs (top 29)) (defBody (top 29)) (defScope (top 29)) .none kV14 dc14 pm14 an14 cd14 ct14), sl14⟩) (c14 : PySem.W.codeIn K cd14 "_law_sums" = true) (k14 : PySem.W.keepIn K (.ref f14) = true)
    {f15 : Addr} {od15 an15 : Option Addr} {sl15 : Array (Option Value)} {oc15 kV15 dc15 pm15 cd15 ct15 : Value}
    (a15 : PySem.W.nsIn K mainGlobals "_law_costs_right" = some (some (.ref f15))) (l15 : K.lookup f15 = some ⟨oc15, od15, .func (PySem.W.fnOf "_law_costs_right" "_law_costs_right" (defArgs (top 31)) (defBody (top 31)) (defScope (top 31)) .none kV15 dc15 pm15 an15 cd15 ct15), sl15⟩) (c15 : PySem.W.codeIn K cd15 "_law_costs_right" = true) (k15 : PySem.W.keepIn K (.ref f15) = true)
    {f16 : Addr} {od16 an16 : Option Addr} {sl16 : Array (Option Value)} {oc16 kV16 dc16 pm16 cd16 ct16 : Value}
    (a16 : PySem.W.nsIn K mainGlobals "is_between" = some (some (.ref f16))) (l16 : K.lookup f16 = some ⟨oc16, od16, .func (PySem.W.fnOf "is_between" "is_between" (defArgs (top 5)) (defBody (top 5)) (defScope (top 5)) .none kV16 dc16 pm16 an16 cd16 ct16), sl16⟩) (c16 : PySem.W.codeIn K cd16 "is_between" = true) (k16 : PySem.W.keepIn K (.ref f16) = true)
    {f17 : Addr} {od17 an17 : Option Addr} {sl17 : Array (Option Value)} {oc17 kV17 dc17 pm17 cd17 ct17 : Value}
    (a17 : PySem.W.nsIn K mainGlobals "is_shape" = some (some (.ref f17))) (l17 : K.lookup f17 = some ⟨oc17, od17, .func (PySem.W.fnOf "is_shape" "is_shape" (defArgs (top 15)) (defBody (top 15)) (defScope (top 15)) .none kV17 dc17 pm17 an17 cd17 ct17), sl17⟩) (c17 : PySem.W.codeIn K cd17 "is_shape" = true) (k17 : PySem.W.keepIn K (.ref f17) = true)
    {f18 : Addr} {od18 an18 : Option Addr} {sl18 : Array (Option Value)} {oc18 kV18 dc18 pm18 cd18 ct18 : Value}
    (a18 : PySem.W.nsIn K mainGlobals "check_shape" = some (some (.ref f18))) (l18 : K.lookup f18 = some ⟨oc18, od18, .func (PySem.W.fnOf "check_shape" "check_shape" (defArgs (top 20)) (defBody (top 20)) (defScope (top 20)) .none kV18 dc18 pm18 an18 cd18 ct18), sl18⟩) (c18 : PySem.W.codeIn K cd18 "check_shape" = true) (k18 : PySem.W.keepIn K (.ref f18) = true)
    {f19 : Addr} {od19 an19 : Option Addr} {sl19 : Array (Option Value)} {oc19 kV19 dc19 pm19 cd19 ct19 : Value}
    (a19 : PySem.W.nsIn K mainGlobals "joined_shape" = some (some (.ref f19))) (l19 : K.lookup f19 = some ⟨oc19, od19, .func (PySem.W.fnOf "joined_shape" "joined_shape" (defArgs (top 19)) (defBody (top 19)) (defScope (top 19)) .none kV19 dc19 pm19 an19 cd19 ct19), sl19⟩) (c19 : PySem.W.codeIn K cd19 "joined_shape" = true) (k19 : PySem.W.keepIn K (.ref f19) = true)
    {f20 : Addr} {od20 an20 : Option Addr} {sl20 : Array (Option Value)} {oc20 kV20 dc20 pm20 cd20 ct20 : Value}
    (a20 : PySem.W.nsIn K mainGlobals "multiply_shapes" = some (some (.ref f20))) (l20 : K.lookup f20 = some ⟨oc20, od20, .func (PySem.W.fnOf "multiply_shapes" "multiply_shapes" (defArgs (top 21)) (defBody (top 21)) (defScope (top 21)) .none kV20 dc20 pm20 an20 cd20 ct20), sl20⟩) (c20 : PySem.W.codeIn K cd20 "multiply_shapes" = true) (k20 : PySem.W.keepIn K (.ref f20) = true)
    {f21 : Addr} {od21 an21 : Option Addr} {sl21 : Array (Option Value)} {oc21 kV21 dc21 pm21 cd21 ct21 : Value}
    (a21 : PySem.W.nsIn K mainGlobals "_law_paths" = some (some (.ref f21))) (l21 : K.lookup f21 = some ⟨oc21, od21, .func (PySem.W.fnOf "_law_paths" "_law_paths" (defArgs (top 30)) (defBody (top 30)) (defScope (top 30)) .none kV21 dc21 pm21 an21 cd21 ct21), sl21⟩) (c21 : PySem.W.codeIn K cd21 "_law_paths" = true) (k21 : PySem.W.keepIn K (.ref f21) = true)
    {f22 : Addr} {od22 an22 : Option Addr} {sl22 : Array (Option Value)} {oc22 kV22 dc22 pm22 cd22 ct22 : Value}
    (a22 : PySem.W.nsIn K mainGlobals "is_stable" = some (some (.ref f22))) (l22 : K.lookup f22 = some ⟨oc22, od22, .func (PySem.W.fnOf "is_stable" "is_stable" (defArgs (top 22)) (defBody (top 22)) (defScope (top 22)) .none kV22 dc22 pm22 an22 cd22 ct22), sl22⟩) (c22 : PySem.W.codeIn K cd22 "is_stable" = true) (k22 : PySem.W.keepIn K (.ref f22) = true)
    {f23 : Addr} {od23 an23 : Option Addr} {sl23 : Array (Option Value)} {oc23 kV23 dc23 pm23 cd23 ct23 : Value}
    (a23 : PySem.W.nsIn K mainGlobals "_law_shapes_right" = some (some (.ref f23))) (l23 : K.lookup f23 = some ⟨oc23, od23, .func (PySem.W.fnOf "_law_shapes_right" "_law_shapes_right" (defArgs (top 32)) (defBody (top 32)) (defScope (top 32)) .none kV23 dc23 pm23 an23 cd23 ct23), sl23⟩) (c23 : PySem.W.codeIn K cd23 "_law_shapes_right" = true) (k23 : PySem.W.keepIn K (.ref f23) = true)
    {f24 : Addr} {od24 an24 : Option Addr} {sl24 : Array (Option Value)} {oc24 kV24 dc24 pm24 cd24 ct24 : Value}
    (a24 : PySem.W.nsIn K mainGlobals "law" = some (some (.ref f24))) (l24 : K.lookup f24 = some ⟨oc24, od24, .func (PySem.W.fnOf "law" "law" (defArgs (top 33)) (defBody (top 33)) (defScope (top 33)) .none kV24 dc24 pm24 an24 cd24 ct24), sl24⟩) (c24 : PySem.W.codeIn K cd24 "law" = true) (k24 : PySem.W.keepIn K (.ref f24) = true)
    (z0 : PySem.W.nsIn K mainGlobals "all" = some none)
    (z1 : PySem.W.nsIn K mainGlobals "bool" = some none)
    (z2 : PySem.W.nsIn K mainGlobals "int" = some none)
    (z3 : PySem.W.nsIn K mainGlobals "isinstance" = some none)
    (z4 : PySem.W.nsIn K mainGlobals "len" = some none)
    (z5 : PySem.W.nsIn K mainGlobals "list" = some none)
    (z6 : PySem.W.nsIn K mainGlobals "max" = some none)
    (z7 : PySem.W.nsIn K mainGlobals "min" = some none)
    (z8 : PySem.W.nsIn K mainGlobals "range" = some none)
    (z9 : PySem.W.nsIn K mainGlobals "repr" = some none)
    (z10 : PySem.W.nsIn K mainGlobals "tuple" = some none)
    (z11 : PySem.W.nsIn K mainGlobals "zip" = some none)
    {u0 : Value} (y0 : PySem.W.nsIn K mainGlobals "FREE" = some (some u0)) (r0 : RelV (.int 0) u0)
    {u1 : Value} (y1 : PySem.W.nsIn K mainGlobals "NEVER" = some (some u1)) (r1 : RelV (.int 3) u1)
    {u2 : Value} (y2 : PySem.W.nsIn K mainGlobals "SOME" = some (some u2)) (r2 : RelV (.int 1) u2)
    {P : Program} {w : World} : ∃ fd : FuncData, (∀ (s : Shared) (v : Value), BindsTo s fd ⟨[v], []⟩ [("_law_script", v)]) ∧ ∀ base : Heap, K.In base → base.Ns mainGlobals mg → FnV true P w K mg base 7 fa fd ["_law_script"] (spZ K 1 e_law) := by
  have e := hfa.symm.trans (PySem.W.mg_of X G a24)
  cases e
  let T : Txt K mg := { 
    f__law_box := f0, fd__law_box := _, F__law_box := fun_mk (st := top 25) l0 c0 k0, m__law_box := PySem.W.mg_of X G a0,
    b__law_box := (fun_mk (st := top 25) l0 c0 k0).binds (ps := ["_law_cell_here"]) fun _ _ _ _ _ _ us hl => match us, hl with | [_], _ => rfl,
    f__law_cell := f1, fd__law_cell := _, F__law_cell := fun_mk (st := top 24) l1 c1 k1, m__law_cell := PySem.W.mg_of X G a1,
    b__law_cell := (fun_mk (st := top 24) l1 c1 k1).binds (ps := ["_law_script", "_law_k"]) fun _ _ _ _ _ _ us hl => match us, hl with | [_, _], _ => rfl,
    f_least := f2, fd_least := _, F_least := fun_mk (st := top 10) l2 c2 k2, m_least := PySem.W.mg_of X G a2,
    b_least := (fun_mk (st := top 10) l2 c2 k2).binds (ps := ["values"]) fun _ _ _ _ _ _ us hl => match us, hl with | [_], _ => rfl,
    f_added := f3, fd_added := _, F_added := fun_mk (st := top 11) l3 c3 k3, m_added := PySem.W.mg_of X G a3,
    b_added := (fun_mk (st := top 11) l3 c3 k3).binds (ps := ["one", "other"]) fun _ _ _ _ _ _ us hl => match us, hl with | [_, _], _ => rfl,
    f_product_of := f4, fd_product_of := _, F_product_of := fun_mk (st := top 12) l4 c4 k4, m_product_of := PySem.W.mg_of X G a4,
    b_product_of := (fun_mk (st := top 12) l4 c4 k4).binds (ps := ["one", "other"]) fun _ _ _ _ _ _ us hl => match us, hl with | [_, _], _ => rfl,
    f_is_square := f5, fd_is_square := _, F_is_square := fun_mk (st := top 13) l5 c5 k5, m_is_square := PySem.W.mg_of X G a5,
    b_is_square := (fun_mk (st := top 13) l5 c5 k5).binds (ps := ["value", "size"]) fun _ _ _ _ _ _ us hl => match us, hl with | [_, _], _ => rfl,
    f_is_integer := f6, fd_is_integer := _, F_is_integer := fun_mk (st := top 4) l6 c6 k6, m_is_integer := PySem.W.mg_of X G a6,
    b_is_integer := (fun_mk (st := top 4) l6 c6 k6).binds (ps := ["value"]) fun _ _ _ _ _ _ us hl => match us, hl with | [_], _ => rfl,
    f_is_matrix := f7, fd_is_matrix := _, F_is_matrix := fun_mk (st := top 14) l7 c7 k7, m_is_matrix := PySem.W.mg_of X G a7,
    b_is_matrix := (fun_mk (st := top 14) l7 c7 k7).binds (ps := ["value", "size"]) fun _ _ _ _ _ _ us hl => match us, hl with | [_, _], _ => rfl,
    f_own_size := f8, fd_own_size := _, F_own_size := fun_mk (st := top 16) l8 c8 k8, m_own_size := PySem.W.mg_of X G a8,
    b_own_size := (fun_mk (st := top 16) l8 c8 k8).binds (ps := ["value"]) fun _ _ _ _ _ _ us hl => match us, hl with | [_], _ => rfl,
    f_multiply_costs := f9, fd_multiply_costs := _, F_multiply_costs := fun_mk (st := top 17) l9 c9 k9, m_multiply_costs := PySem.W.mg_of X G a9,
    b_multiply_costs := (fun_mk (st := top 17) l9 c9 k9).binds (ps := ["one", "other"]) fun _ _ _ _ _ _ us hl => match us, hl with | [_, _], _ => rfl,
    f_shape_of := f10, fd_shape_of := _, F_shape_of := fun_mk (st := top 18) l10 c10 k10, m_shape_of := PySem.W.mg_of X G a10,
    b_shape_of := (fun_mk (st := top 18) l10 c10 k10).binds (ps := ["matrix"]) fun _ _ _ _ _ _ us hl => match us, hl with | [_], _ => rfl,
    f__law_take := f11, fd__law_take := _, F__law_take := fun_mk (st := top 26) l11 c11 k11, m__law_take := PySem.W.mg_of X G a11,
    b__law_take := (fun_mk (st := top 26) l11 c11 k11).binds (ps := ["_law_box_here", "_law_size"]) fun _ _ _ _ _ _ us hl => match us, hl with | [_, _], _ => rfl,
    f__law_drawn := f12, fd__law_drawn := _, F__law_drawn := fun_mk (st := top 27) l12 c12 k12, m__law_drawn := PySem.W.mg_of X G a12,
    b__law_drawn := (fun_mk (st := top 27) l12 c12 k12).binds (ps := ["_law_box_here", "_law_size", "_law_items"]) fun _ _ _ _ _ _ us hl => match us, hl with | [_, _, _], _ => rfl,
    f__law_given := f13, fd__law_given := _, F__law_given := fun_mk (st := top 28) l13 c13 k13, m__law_given := PySem.W.mg_of X G a13,
    b__law_given := (fun_mk (st := top 28) l13 c13 k13).binds (ps := ["_law_box_here", "_law_matrix"]) fun _ _ _ _ _ _ us hl => match us, hl with | [_, _], _ => rfl,
    f__law_sums := f14, fd__law_sums := _, F__law_sums := fun_mk (st := top 29) l14 c14 k14, m__law_sums := PySem.W.mg_of X G a14,
    b__law_sums := (fun_mk (st := top 29) l14 c14 k14).binds (ps := ["_law_one", "_law_other"]) fun _ _ _ _ _ _ us hl => match us, hl with | [_, _], _ => rfl,
    f__law_costs_right := f15, fd__law_costs_right := _, F__law_costs_right := fun_mk (st := top 31) l15 c15 k15, m__law_costs_right := PySem.W.mg_of X G a15,
    b__law_costs_right := (fun_mk (st := top 31) l15 c15 k15).binds (ps := ["_law_box_here", "_law_size"]) fun _ _ _ _ _ _ us hl => match us, hl with | [_, _], _ => rfl,
    f_is_between := f16, fd_is_between := _, F_is_between := fun_mk (st := top 5) l16 c16 k16, m_is_between := PySem.W.mg_of X G a16,
    b_is_between := (fun_mk (st := top 5) l16 c16 k16).binds (ps := ["value", "low", "high"]) fun _ _ _ _ _ _ us hl => match us, hl with | [_, _, _], _ => rfl,
    f_is_shape := f17, fd_is_shape := _, F_is_shape := fun_mk (st := top 15) l17 c17 k17, m_is_shape := PySem.W.mg_of X G a17,
    b_is_shape := (fun_mk (st := top 15) l17 c17 k17).binds (ps := ["value", "size"]) fun _ _ _ _ _ _ us hl => match us, hl with | [_, _], _ => rfl,
    f_check_shape := f18, fd_check_shape := _, F_check_shape := fun_mk (st := top 20) l18 c18 k18, m_check_shape := PySem.W.mg_of X G a18,
    b_check_shape := (fun_mk (st := top 20) l18 c18 k18).binds (ps := ["shape", "size"]) fun _ _ _ _ _ _ us hl => match us, hl with | [_, _], _ => rfl,
    f_joined_shape := f19, fd_joined_shape := _, F_joined_shape := fun_mk (st := top 19) l19 c19 k19, m_joined_shape := PySem.W.mg_of X G a19,
    b_joined_shape := (fun_mk (st := top 19) l19 c19 k19).binds (ps := ["one", "other"]) fun _ _ _ _ _ _ us hl => match us, hl with | [_, _], _ => rfl,
    f_multiply_shapes := f20, fd_multiply_shapes := _, F_multiply_shapes := fun_mk (st := top 21) l20 c20 k20, m_multiply_shapes := PySem.W.mg_of X G a20,
    b_multiply_shapes := (fun_mk (st := top 21) l20 c20 k20).binds (ps := ["one", "other"]) fun _ _ _ _ _ _ us hl => match us, hl with | [_, _], _ => rfl,
    f__law_paths := f21, fd__law_paths := _, F__law_paths := fun_mk (st := top 30) l21 c21 k21, m__law_paths := PySem.W.mg_of X G a21,
    b__law_paths := (fun_mk (st := top 30) l21 c21 k21).binds (ps := ["_law_one", "_law_other"]) fun _ _ _ _ _ _ us hl => match us, hl with | [_, _], _ => rfl,
    f_is_stable := f22, fd_is_stable := _, F_is_stable := fun_mk (st := top 22) l22 c22 k22, m_is_stable := PySem.W.mg_of X G a22,
    b_is_stable := (fun_mk (st := top 22) l22 c22 k22).binds (ps := ["shape"]) fun _ _ _ _ _ _ us hl => match us, hl with | [_], _ => rfl,
    f__law_shapes_right := f23, fd__law_shapes_right := _, F__law_shapes_right := fun_mk (st := top 32) l23 c23 k23, m__law_shapes_right := PySem.W.mg_of X G a23,
    b__law_shapes_right := (fun_mk (st := top 32) l23 c23 k23).binds (ps := ["_law_box_here", "_law_size"]) fun _ _ _ _ _ _ us hl => match us, hl with | [_, _], _ => rfl,
    f_law := fa, fd_law := _, F_law := fun_mk (st := top 33) l24 c24 k24, m_law := PySem.W.mg_of X G a24,
    b_law := (fun_mk (st := top 33) l24 c24 k24).binds (ps := ["_law_script"]) fun _ _ _ _ _ _ us hl => match us, hl with | [_], _ => rfl,
    z_all := PySem.W.mg_none_of X G z0,
    z_bool := PySem.W.mg_none_of X G z1,
    z_int := PySem.W.mg_none_of X G z2,
    z_isinstance := PySem.W.mg_none_of X G z3,
    z_len := PySem.W.mg_none_of X G z4,
    z_list := PySem.W.mg_none_of X G z5,
    z_max := PySem.W.mg_none_of X G z6,
    z_min := PySem.W.mg_none_of X G z7,
    z_range := PySem.W.mg_none_of X G z8,
    z_repr := PySem.W.mg_none_of X G z9,
    z_tuple := PySem.W.mg_none_of X G z10,
    z_zip := PySem.W.mg_none_of X G z11,
    w_FREE := _, k_FREE := PySem.W.mg_of X G y0, r_FREE := r0,
    w_NEVER := _, k_NEVER := PySem.W.mg_of X G y1, r_NEVER := r1,
    w_SOME := _, k_SOME := PySem.W.mg_of X G y2, r_SOME := r2
  }
  exact ⟨T.fd_law, fun s v => .of_eq rfl, fun base _ _ => v_all T⟩
end K35
open PySem PySem.W PyProof.Rows
set_option maxRecDepth 100000 in
set_option maxHeartbeats 0 in
theorem PySem.Challenge.cw_formatrepair_k35_products_and_shapes_holds : PySem.Challenge.rw_formatrepair_k35_products_and_shapes.Holds := by
  w_on; o_law; k_head; (case hw => w_witness2)
  k_fill
  refine Z.walkV (l := PySem.Challenge.rw_formatrepair_k35_products_and_shapes) (n := 63) (k := 7) (x := "_law_script") (g := K35.e_law) rfl (by decide) rfl ⟨rfl, by decide, by decide⟩ (fun w h Y => PySem.W.kIn_of Y) ?F K35.law_ok
  case F =>
    intro w mg fa h KX G hmg
    refine' K35.all_mk KX G hmg ?a0 ?l0 ?c0 ?k0 ?a1 ?l1 ?c1 ?k1 ?a2 ?l2 ?c2 ?k2 ?a3 ?l3 ?c3 ?k3 ?a4 ?l4 ?c4 ?k4 ?a5 ?l5 ?c5 ?k5 ?a6 ?l6 ?c6 ?k6 ?a7 ?l7 ?c7 ?k7 ?a8 ?l8 ?c8 ?k8 ?a9 ?l9 ?c9 ?k9 ?a10 ?l10 ?c10 ?k10 ?a11 ?l11 ?c11 ?k11 ?a12 ?l12 ?c12 ?k12 ?a13 ?l13 ?c13 ?k13 ?a14 ?l14 ?c14 ?k14 ?a15 ?l15 ?c15 ?k15 ?a16 ?l16 ?c16 ?k16 ?a17 ?l17 ?c17 ?k17 ?a18 ?l18 ?c18 ?k18 ?a19 ?l19 ?c19 ?k19 ?a20 ?l20 ?c20 ?k20 ?a21 ?l21 ?c21 ?k21 ?a22 ?l22 ?c22 ?k22 ?a23 ?l23 ?c23 ?k23 ?a24 ?l24 ?c24 ?k24 ?z0 ?z1 ?z2 ?z3 ?z4 ?z5 ?z6 ?z7 ?z8 ?z9 ?z10 ?z11 ?y0 ?r0 ?y1 ?r1 ?y2 ?r2
    (case a0 => k_is)
    (case l0 => k_is)
    (case c0 => k_is)
    (case k0 => k_is)
    (case a1 => k_is)
    (case l1 => k_is)
    (case c1 => k_is)
    (case k1 => k_is)
    (case a2 => k_is)
    (case l2 => k_is)
    (case c2 => k_is)
    (case k2 => k_is)
    (case a3 => k_is)
    (case l3 => k_is)
    (case c3 => k_is)
    (case k3 => k_is)
    (case a4 => k_is)
    (case l4 => k_is)
    (case c4 => k_is)
    (case k4 => k_is)
    (case a5 => k_is)
    (case l5 => k_is)
    (case c5 => k_is)
    (case k5 => k_is)
    (case a6 => k_is)
    (case l6 => k_is)
    (case c6 => k_is)
    (case k6 => k_is)
    (case a7 => k_is)
    (case l7 => k_is)
    (case c7 => k_is)
    (case k7 => k_is)
    (case a8 => k_is)
    (case l8 => k_is)
    (case c8 => k_is)
    (case k8 => k_is)
    (case a9 => k_is)
    (case l9 => k_is)
    (case c9 => k_is)
    (case k9 => k_is)
    (case a10 => k_is)
    (case l10 => k_is)
    (case c10 => k_is)
    (case k10 => k_is)
    (case a11 => k_is)
    (case l11 => k_is)
    (case c11 => k_is)
    (case k11 => k_is)
    (case a12 => k_is)
    (case l12 => k_is)
    (case c12 => k_is)
    (case k12 => k_is)
    (case a13 => k_is)
    (case l13 => k_is)
    (case c13 => k_is)
    (case k13 => k_is)
    (case a14 => k_is)
    (case l14 => k_is)
    (case c14 => k_is)
    (case k14 => k_is)
    (case a15 => k_is)
    (case l15 => k_is)
    (case c15 => k_is)
    (case k15 => k_is)
    (case a16 => k_is)
    (case l16 => k_is)
    (case c16 => k_is)
    (case k16 => k_is)
    (case a17 => k_is)
    (case l17 => k_is)
    (case c17 => k_is)
    (case k17 => k_is)
    (case a18 => k_is)
    (case l18 => k_is)
    (case c18 => k_is)
    (case k18 => k_is)
    (case a19 => k_is)
    (case l19 => k_is)
    (case c19 => k_is)
    (case k19 => k_is)
    (case a20 => k_is)
    (case l20 => k_is)
    (case c20 => k_is)
    (case k20 => k_is)
    (case a21 => k_is)
    (case l21 => k_is)
    (case c21 => k_is)
    (case k21 => k_is)
    (case a22 => k_is)
    (case l22 => k_is)
    (case c22 => k_is)
    (case k22 => k_is)
    (case a23 => k_is)
    (case l23 => k_is)
    (case c23 => k_is)
    (case k23 => k_is)
    (case a24 => k_is)
    (case l24 => k_is)
    (case c24 => k_is)
    (case k24 => k_is)
    (case z0 => k_is)
    (case z1 => k_is)
    (case z2 => k_is)
    (case z3 => k_is)
    (case z4 => k_is)
    (case z5 => k_is)
    (case z6 => k_is)
    (case z7 => k_is)
    (case z8 => k_is)
    (case z9 => k_is)
    (case z10 => k_is)
    (case z11 => k_is)
    (case y0 => k_is)
    (case r0 => exact ⟨_, rfl⟩)
    (case y1 => k_is)
    (case r1 => exact ⟨_, rfl⟩)
    (case y2 => k_is)
    (case r2 => exact ⟨_, rfl⟩)
