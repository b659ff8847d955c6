import PyProof.Rows.All
import Wide.All
import OpenK.AllK
import Wide.FinOn
import HandS.Small
import HandS.ForMost
import HandS.ForExc
import HandS.CallSlots
import HandS.Zip
import KE.GoesEnum
import KE.GoesMore
import HandS.TupAny
import HandS.TupMul
import HandS.TupLe
import HandS.IsInst
import HandS.NoneIn
import HandS.More
import KE.LtData
import KE.SortData
import PyProof.IsiSeqPairs
import HandS.ExcOwn
import PyProof.Transfer
import KE.KDictSum
import KE.KDictZip
import KE.KDictPairs
import HandS.Deep
import HandS.Conv
import HandS.DictComp
import HandS.Set
import HandS.SetKeys
import HandS.SetFor
import HandS.HeadHook1
import HandS.HeadEnd
import HandS.HeadWalk
import HandS.Ends
import HandS.Head0
import HandS.Head1
import HandS.Head2
import PySem.Challenge.RW_mistgrid_k50_no_releases
set_option Elab.async false
set_option linter.all false
set_option maxRecDepth 100000
set_option maxHeartbeats 0

/-! D0: data over the hand layer: values as PyData, own lists, readings that are plain functions. -/
namespace DL
open PySem PySem.Spec PyProof.Rows L2

/-! ### what a value is as data -/
def keyD : Key → PyData
  | .inl i => .int i
  | .inr s => .str s
/-- a tuple whose object is known; it bears no attributes -/
def TupAt (G : Hp) (a : Addr) (xs : List V) : Prop := ∃ o, G a = some (.frz o (.tup xs)) ∧ o.dict = none
theorem TupAt.mono {G G' : Hp} {a : Addr} {xs : List V} (h : TupAt G a xs) (e : Same G G') : TupAt G' a xs := by
  obtain ⟨o, q, d⟩ := h
  exact ⟨o, e _ _ q, d⟩
theorem TupAt.sq {K : PySem.W.Frag} {G : Hp} {a : Addr} {xs : List V} (h : TupAt G a xs) : SqT K G a xs := by
  obtain ⟨o, q, d⟩ := h
  exact .inl (.inr ⟨o, q⟩)
theorem TupAt.sqT {K : PySem.W.Frag} {G H : Hp} {a : Addr} {xs : List V} (h : TupAt G a xs) (e : Same G H) : SqT K H a xs := (h.mono e).sq
mutual
/-- the value v reads as d in the frozen heap G -/
inductive Dr (K : PySem.W.Frag) (G : Hp) : V → PyData → Prop
  | non : Dr K G .non .none
  | bl (b : Bool) : Dr K G (.bl b) (.bool b)
  | int (i : Int) : Dr K G (.int i) (.int i)
  | str (x : Str) : Dr K G (.str x) (.str x)
  | lst {a : Addr} {xs : List V} {ds : List PyData} : SqL K G a xs → DrL K G xs ds → Dr K G (.ref a) (.list ds)
  | tup {a : Addr} {xs : List V} {ds : List PyData} : TupAt G a xs → DrL K G xs ds → Dr K G (.ref a) (.tuple ds)
  | dK {a : Addr} {o : Obj} {kv : List (Key × V)} {kvs : List (PyData × PyData)} : G a = some (.frz o (.dK kv)) → DrK K G kv kvs → Dr K G (.ref a) (.dict kvs)
inductive DrL (K : PySem.W.Frag) (G : Hp) : List V → List PyData → Prop
  | nil : DrL K G [] []
  | cons {v : V} {vs : List V} {d : PyData} {ds : List PyData} : Dr K G v d → DrL K G vs ds → DrL K G (v :: vs) (d :: ds)
inductive DrK (K : PySem.W.Frag) (G : Hp) : List (Key × V) → List (PyData × PyData) → Prop
  | nil : DrK K G [] []
  | cons {k : Key} {v : V} {r : List (Key × V)} {d : PyData} {rs : List (PyData × PyData)} : Dr K G v d → DrK K G r rs → DrK K G ((k, v) :: r) ((keyD k, d) :: rs)
end

theorem same_rd {H H' : Hp} {a : Addr} {u : HO} (e : Same H H') (h : Rd H a u) : Rd H' a u := by
  rcases h with h | ⟨o, h⟩
  · exact .inl (e _ _ h)
  · exact .inr ⟨o, e _ _ h⟩
theorem same_l {K : PySem.W.Frag} {H H' : Hp} {a : Addr} {xs : List V} (e : Same H H') (h : SqL K H a xs) : SqL K H' a xs := by
  rcases h with h | h
  · exact .inl (same_rd e h)
  · exact .inr h
theorem same_t {K : PySem.W.Frag} {H H' : Hp} {a : Addr} {xs : List V} (e : Same H H') (h : SqT K H a xs) : SqT K H' a xs := by
  rcases h with h | h
  · exact .inl (same_rd e h)
  · exact .inr h

section
variable {K : PySem.W.Frag} {G G' : Hp}
mutual
theorem Dr.mono (e : Same G G') : ∀ {v : V} {d : PyData}, Dr K G v d → Dr K G' v d
  | _, _, .non => .non
  | _, _, .bl b => .bl b
  | _, _, .int i => .int i
  | _, _, .str x => .str x
  | _, _, .lst h1 h2 => .lst (same_l e h1) (DrL.mono e h2)
  | _, _, .tup h1 h2 => .tup (h1.mono e) (DrL.mono e h2)
  | _, _, .dK h1 h2 => .dK (e _ _ h1) (DrK.mono e h2)
theorem DrL.mono (e : Same G G') : ∀ {v : List V} {d : List PyData}, DrL K G v d → DrL K G' v d
  | _, _, .nil => .nil
  | _, _, .cons h t => .cons (Dr.mono e h) (DrL.mono e t)
theorem DrK.mono (e : Same G G') : ∀ {v : List (Key × V)} {d : List (PyData × PyData)}, DrK K G v d → DrK K G' v d
  | _, _, .nil => .nil
  | _, _, .cons h t => .cons (Dr.mono e h) (DrK.mono e t)
end
theorem DrL.len : ∀ {vs : List V} {ds : List PyData}, DrL K G vs ds → vs.length = ds.length
  | _, _, .nil => rfl
  | _, _, .cons _ t => congrArg (· + 1) (DrL.len t)
theorem DrL.get : ∀ {vs : List V} {ds : List PyData} {i : Nat} {v : V}, DrL K G vs ds → vs[i]? = some v → ∃ d, ds[i]? = some d ∧ Dr K G v d
  | _, _, _, _, .nil, h => by simp at h
  | _, _, 0, _, .cons h _, e => by
    simp at e
    subst e
    exact ⟨_, rfl, h⟩
  | _, _, i + 1, v, .cons _ t, e => by
    obtain ⟨d, h1, h2⟩ := DrL.get (i := i) (v := v) t (by simpa using e)
    exact ⟨d, by simpa using h1, h2⟩
theorem DrL.getD : ∀ {vs : List V} {ds : List PyData} {i : Nat} {d : PyData}, DrL K G vs ds → ds[i]? = some d → ∃ v, vs[i]? = some v ∧ Dr K G v d
  | _, _, _, _, .nil, h => by simp at h
  | _, _, 0, _, .cons h _, e => by
    simp at e
    subst e
    exact ⟨_, rfl, h⟩
  | _, _, i + 1, d, .cons _ t, e => by
    obtain ⟨v, h1, h2⟩ := DrL.getD (i := i) (d := d) t (by simpa using e)
    exact ⟨v, by simpa using h1, h2⟩
theorem DrL.append : ∀ {vs ws : List V} {ds es : List PyData}, DrL K G vs ds → DrL K G ws es → DrL K G (vs ++ ws) (ds ++ es)
  | _, _, _, _, .nil, s => s
  | _, _, _, _, .cons r t, s => .cons r (DrL.append t s)
theorem DrL.take : ∀ {vs : List V} {ds : List PyData} (n : Nat), DrL K G vs ds → DrL K G (vs.take n) (ds.take n)
  | _, _, 0, _ => .nil
  | _, _, _ + 1, .nil => .nil
  | _, _, n + 1, .cons r t => .cons r (DrL.take n t)
theorem DrL.drop : ∀ {vs : List V} {ds : List PyData} (n : Nat), DrL K G vs ds → DrL K G (vs.drop n) (ds.drop n)
  | _, _, 0, r => r
  | _, _, _ + 1, .nil => .nil
  | _, _, n + 1, .cons _ t => DrL.drop n t
theorem DrL.set {x : V} {d : PyData} (r : Dr K G x d) : ∀ {vs : List V} {ds : List PyData} (i : Nat), DrL K G vs ds → DrL K G (vs.set i x) (ds.set i d)
  | _, _, _, .nil => .nil
  | _, _, 0, .cons _ t => .cons r t
  | _, _, i + 1, .cons q t => .cons q (DrL.set r i t)
theorem DrL.erase : ∀ {vs : List V} {ds : List PyData} (i : Nat), DrL K G vs ds → DrL K G (vs.eraseIdx i) (ds.eraseIdx i)
  | _, _, _, .nil => .nil
  | _, _, 0, .cons _ t => t
  | _, _, i + 1, .cons q t => .cons q (DrL.erase i t)
theorem DrL.rev {vs : List V} {ds : List PyData} (h : DrL K G vs ds) : DrL K G vs.reverse ds.reverse := by
  have aux : ∀ {vs : List V} {ds : List PyData}, DrL K G vs ds → DrL K G vs.reverse ds.reverse := by
    intro vs
    induction vs with
    | nil => intro ds h; cases h; exact .nil
    | cons v r ih =>
      intro ds h
      cases h with
      | cons h t =>
        rw [List.reverse_cons, List.reverse_cons]
        exact (ih t).append (.cons h .nil)
  exact aux h
theorem DrL.none_of {vs : List V} {ds : List PyData} {i : Nat} (h : DrL K G vs ds) (e : vs[i]? = none) : ds[i]? = none := by
  have h1 := h.len
  rw [List.getElem?_eq_none_iff] at e ⊢
  omega
theorem DrL.rep {vs : List V} {ds : List PyData} (h : DrL K G vs ds) : ∀ k : Nat, DrL K G (List.replicate k vs).flatten (List.replicate k ds).flatten
  | 0 => .nil
  | k + 1 => by
    rw [List.replicate_succ, List.flatten_cons, List.replicate_succ, List.flatten_cons]
    exact h.append (DrL.rep h k)
/-! data without dicts within, as HandS has it -/
mutual
theorem Dr.dp : ∀ {v : V} {d : PyData}, d.canLay0 = true → Dr K G v d → Dp K G v d
  | _, _, _, .non => .non
  | _, _, _, .bl b => .bl b
  | _, _, _, .int i => .int i
  | _, _, _, .str x => .str x
  | _, _, h, .lst h1 h2 => .lst h1 (DrL.dp (by simpa [PyData.canLay0] using h) h2)
  | _, _, h, .tup h1 h2 => .tup h1.sq (DrL.dp (by simpa [PyData.canLay0] using h) h2)
  | _, _, h, .dK _ _ => absurd h (by simp [PyData.canLay0])
theorem DrL.dp : ∀ {v : List V} {d : List PyData}, PyData.canLayAll0 d = true → DrL K G v d → DpAll K G v d
  | _, _, _, .nil => .nil
  | _, d :: ds, h, .cons h1 h2 => by
    have h' : PyData.canLay0 d = true ∧ PyData.canLayAll0 ds = true := by simpa [PyData.canLayAll0] using h
    exact .cons (Dr.dp h'.1 h1) (DrL.dp h'.2 h2)
end
end

/-! ### what a name holds -/
inductive Cell where
  | no
  | fr (d : PyData)
  | ol (b : Bool) (ds : List PyData)
  | od (b : Bool) (kvs : List (PyData × PyData))
  | oi (b : Bool) (c : Nat) (fs : List (Str × PyData))
  | dl (kvs : List (PyData × List PyData))
abbrev Env := List Cell
/-- the classes by numbers, the arguments' addresses -/
structure Pm where
  K : PySem.W.Frag
  ct : Nat → Addr
  P : Nat → Addr
abbrev Own := Addr → Option Nat
def DrF (K : PySem.W.Frag) (G : Hp) : List (Str × V) → List (Str × PyData) → Prop := Paired fun p q => p.1 = q.1 ∧ Dr K G p.2 q.2
/-- a dict that may be written -/
def DictAt (K : PySem.W.Frag) (G H : Hp) (a : Addr) (kvs : List (PyData × PyData)) : Prop :=
  ∃ kv, H a = some (.dK kv) ∧ DrK K G kv kvs
/-- a dict of own lists: its rows -/
def DlRows (K : PySem.W.Frag) (G : Hp) (O : Own) (H : Hp) (i : Nat) : List (Key × V) → List (PyData × List PyData) → Prop :=
  Paired fun p q => keyD p.1 = q.1 ∧ ∃ b vs, p.2 = .ref b ∧ O b = some i ∧ H b = some (.lst vs) ∧ DrL K G vs q.2
def CellOk (Z : Pm) (σ : L2.St) (G : Hp) (O : Own) (H : Hp) (i : Nat) : Cell → Prop
  | .no => True
  | .fr d => ∃ v, σ[i]? = some (some v) ∧ Dr Z.K G v d
  | .ol b ds => ∃ a vs, σ[i]? = some (some (.ref a)) ∧ O a = some i ∧ H a = some (.lst vs) ∧ DrL Z.K G vs ds ∧ (b = true → Z.P i = a)
  | .od b kvs => ∃ a, σ[i]? = some (some (.ref a)) ∧ O a = some i ∧ DictAt Z.K G H a kvs ∧ (b = true → Z.P i = a)
  | .oi b c fs => ∃ a dx fvs, σ[i]? = some (some (.ref a)) ∧ O a = some i ∧ H a = some (.ins (Z.ct c) dx fvs) ∧ DrF Z.K G fvs fs ∧ (b = true → Z.P i = a)
  | .dl kvs => ∃ a kv, σ[i]? = some (some (.ref a)) ∧ O a = some i ∧ H a = some (.dK kv) ∧ DlRows Z.K G O H i kv kvs ∧ (kv.map (·.2)).Nodup
structure Rel (Z : Pm) (ρ : Env) (σ : L2.St) (G : Hp) (O : Own) (H : Hp) : Prop where
  len : ρ.length = σ.length
  gh : Same G H
  go : ∀ a, O a ≠ none → G a = none
  oh : ∀ a, O a ≠ none → H a ≠ none
  cell : ∀ i c, ρ[i]? = some c → CellOk Z σ G O H i c
/-- what may have changed: the frozen heap grows by what was frozen, owned or new; what is neither owned nor new stays -/
structure Step (G : Hp) (O : Own) (H G' : Hp) (O' : Own) (H' : Hp) : Prop where
  gg : Same G G'
  gn : ∀ b, G' b ≠ none → G b ≠ none ∨ O b ≠ none ∨ H b = none
  oo : ∀ b, O' b ≠ none → O b ≠ none ∨ H b = none
  fr : ∀ b o, H b = some o → O b = none → H' b = some o
theorem Step.refl {G : Hp} {O : Own} {H : Hp} : Step G O H G O H := ⟨Same.refl _, fun _ h => .inl h, fun _ h => .inl h, fun _ _ h _ => h⟩
theorem Step.back {G : Hp} {O : Own} {H G' : Hp} {O' : Own} {H' : Hp} (s : Step G O H G' O' H') {b : Addr} (h : H' b = none) : O b ≠ none ∨ H b = none := by
  cases e : H b with
  | none => exact .inr rfl
  | some o =>
    refine .inl fun z => ?_
    rw [s.fr b o e z] at h
    cases h
theorem Step.trans {G : Hp} {O : Own} {H G1 : Hp} {O1 : Own} {H1 G2 : Hp} {O2 : Own} {H2 : Hp} (s : Step G O H G1 O1 H1) (t : Step G1 O1 H1 G2 O2 H2) : Step G O H G2 O2 H2 := by
  refine ⟨s.gg.trans t.gg, fun b h => ?_, fun b h => ?_, fun b o h n => ?_⟩
  · rcases t.gn b h with q | q | q
    · exact s.gn b q
    · exact (s.oo b q).elim (fun z => .inr (.inl z)) fun z => .inr (.inr z)
    · exact .inr (s.back q)
  · rcases t.oo b h with q | q
    · exact s.oo b q
    · exact s.back q
  · refine t.fr b o (s.fr b o h n) ?_
    cases e : O1 b with
    | none => rfl
    | some i =>
      rcases s.oo b (by rw [e]; exact fun z => nomatch z) with q | q
      · exact absurd n q
      · rw [q] at h
        cases h

/-! ### what running gives -/
structure Ex where
  cls : Nat
  fs : Option (List (Str × PyData))
inductive R (α : Type) where
  | ok (a : α) (ρ : Env)
  | er (x : Ex) (ρ : Env)
  | bad
def R.bind {α β : Type} (r : R α) (k : α → Env → R β) : R β := match r with
  | .ok a ρ => k a ρ
  | .er x ρ => .er x ρ
  | .bad => .bad
/-- an exception as it lies -/
def ExIs (Z : Pm) (G : Hp) (x : Ex) (c : Value) (od : Option Addr) : Prop := c = .ref (Z.ct x.cls) ∧ match x.fs with
  | none => od = none
  | some fs => ∃ a fvs, od = some a ∧ G a = some (.xd fvs) ∧ DrF Z.K G fvs fs
def Post {α β : Type} (Z : Pm) (W : WX) (rel : Hp → Own → Hp → β → α → Prop) (σ : L2.St) (G : Hp) (O : Own) (H : Hp) (Q : β → Hp → Prop) : R α → Prop
  | .ok d ρ' => ∀ v G' O' H', Rel Z ρ' σ G' O' H' → Step G O H G' O' H' → rel G' O' H' v d → Q v H'
  | .er x ρ' => ∀ c od G' O' H', Rel Z ρ' σ G' O' H' → Step G O H G' O' H' → ExIs Z G' x c od → W c od σ H'
  | .bad => False
def T_ {α β : Type} (Z : Pm) (W : WX) (rel : Hp → Own → Hp → β → α → Prop) (f : Env → R α) : L2.St → Hp → (β → Hp → Prop) → Prop := fun σ H Q =>
  ∃ ρ G O, Rel Z ρ σ G O H ∧ Post Z W rel σ G O H Q (f ρ)
theorem Post.step {α β : Type} {Z : Pm} {W : WX} {rel : Hp → Own → Hp → β → α → Prop} {σ : L2.St} {G : Hp} {O : Own} {H : Hp} {Q : β → Hp → Prop} {r : R α} {G1 : Hp} {O1 : Own} {H1 : Hp}
    (s : Step G O H G1 O1 H1) (h : Post Z W rel σ G O H Q r) : Post Z W rel σ G1 O1 H1 Q r := by
  cases r with
  | ok d ρ' => exact fun v G' O' H' R S D => h v G' O' H' R (s.trans S) D
  | er x ρ' => exact fun c od G' O' H' R S D => h c od G' O' H' R (s.trans S) D
  | bad => exact h
/-- one part, then the rest -/
theorem t_bind {α β γ δ : Type} {Z : Pm} {W : WX} {rel : Hp → Own → Hp → β → α → Prop} {rel2 : Hp → Own → Hp → δ → γ → Prop} {f : Env → R α} {k : α → Env → R γ} {σ : L2.St} {ρ : Env} {G : Hp} {O : Own} {H : Hp} {Q : δ → Hp → Prop} {Q1 : β → Hp → Prop}
    (R0 : Rel Z ρ σ G O H) (h : Post Z W rel2 σ G O H Q ((f ρ).bind k))
    (c : ∀ d ρ1 v G1 O1 H1, f ρ = .ok d ρ1 → Rel Z ρ1 σ G1 O1 H1 → Step G O H G1 O1 H1 → rel G1 O1 H1 v d → Post Z W rel2 σ G1 O1 H1 Q (k d ρ1) → Q1 v H1) : T_ Z W rel f σ H Q1 := by
  refine ⟨ρ, G, O, R0, ?_⟩
  cases e : f ρ with
  | ok d ρ1 =>
    rw [e] at h
    exact fun v G1 O1 H1 R1 S1 D1 => c d ρ1 v G1 O1 H1 e R1 S1 D1 (Post.step S1 h)
  | er x ρ1 =>
    rw [e] at h
    exact h
  | bad =>
    rw [e] at h
    exact h
/-- the wish is the same, the result is read otherwise -/
theorem Post.ok_of {α β : Type} {Z : Pm} {W : WX} {rel : Hp → Own → Hp → β → α → Prop} {σ : L2.St} {G : Hp} {O : Own} {H : Hp} {Q : β → Hp → Prop} {d : α} {ρ' : Env} {v : β}
    (h : Post Z W rel σ G O H Q (.ok d ρ')) (R : Rel Z ρ' σ G O H) (D : rel G O H v d) : Q v H := h v G O H R Step.refl D
abbrev TD (Z : Pm) (W : WX) (f : Env → R PyData) : TE := T_ Z W (fun G _ _ v d => Dr Z.K G v d) f
abbrev TDb (Z : Pm) (W : WX) (f : Env → R Bool) : TT := T_ Z W (fun _ _ _ (b : Bool) c => b = c) f
abbrev TDl (Z : Pm) (W : WX) (f : Env → R (List PyData)) : TA := T_ Z W (fun G _ _ v d => DrL Z.K G v d) f

/-! ### a reading weakened -/
section
variable {X : Cx}
theorem PE_imp {e : Expr} {t t' : TE} (h : PE X e t) (i : ∀ σ H Q, t' σ H Q → t σ H Q) : PE X e t' := ⟨fun pins s σ H Q I q => h.run pins s σ H Q I (i σ H Q q)⟩
theorem PT_imp {e : Expr} {t t' : TT} (h : PT X e t) (i : ∀ σ H Q, t' σ H Q → t σ H Q) : PT X e t' := ⟨fun pins s σ H Q I q => h.run pins s σ H Q I (i σ H Q q)⟩
theorem PW_imp {e : Expr} {t t' : TT} (h : PW X e t) (i : ∀ σ H Q, t' σ H Q → t σ H Q) : PW X e t' := ⟨fun wh pins s σ H Q I q => h.run wh pins s σ H Q I (i σ H Q q)⟩
theorem PA_imp {e : List Expr} {t t' : TA} (h : PA X e t) (i : ∀ σ H Q, t' σ H Q → t σ H Q) : PA X e t' := ⟨fun p pins s σ H Q I q => h.run p pins s σ H Q I (i σ H Q q)⟩
theorem PS_imp {e : Stmt} {t t' : TS} (h : PS X e t) (i : ∀ D σ H, t' D σ H → t D σ H) : PS X e t' := ⟨fun pins s σ H D I q => h.run pins s σ H D I (i D σ H q)⟩
theorem PSs_imp {e : List Stmt} {t t' : TS} (h : PSs X e t) (i : ∀ D σ H, t' D σ H → t D σ H) : PSs X e t' := ⟨fun pins s σ H D I q => h.run pins s σ H D I (i D σ H q)⟩
theorem PG_imp {e : Expr} {t t' : TG} (h : PG X e t) (i : ∀ v σ H Q, t' v σ H Q → t v σ H Q) : PG X e t' := ⟨fun pins s σ H v u Q I r q => h.run pins s σ H v u Q I r (i v σ H Q q)⟩
theorem PGs_imp {e : List Expr} {t t' : TGs} (h : PGs X e t) (i : ∀ v σ H Q, t' v σ H Q → t v σ H Q) : PGs X e t' := ⟨fun pins s σ H v u Q I r q => h.run pins s σ H v u Q I r (i v σ H Q q)⟩
theorem PI_imp {tg e : Expr} {t t' : TI} (h : PI X tg e t) (i : ∀ σ H Q, t' σ H Q → t σ H Q) : PI X tg e t' := ⟨fun pins s σ H Q I q => h.run pins s σ H Q I (i σ H Q q)⟩
end
abbrev DE (X : Cx) (Z : Pm) (W : WX) (e : Expr) (f : Env → R PyData) : Prop := PE X e (TD Z W f)
abbrev DT (X : Cx) (Z : Pm) (W : WX) (e : Expr) (f : Env → R Bool) : Prop := PT X e (TDb Z W f)
abbrev DW (X : Cx) (Z : Pm) (W : WX) (e : Expr) (f : Env → R Bool) : Prop := PW X e (TDb Z W f)
abbrev DA (X : Cx) (Z : Pm) (W : WX) (e : List Expr) (f : Env → R (List PyData)) : Prop := PA X e (TDl Z W f)
/-- what is never reached -/
theorem de_bad {X : Cx} {Z : Pm} {W : WX} {e : Expr} : DE X Z W e (fun _ => .bad) := ⟨fun _ _ _ _ _ _ h => by
  obtain ⟨_, _, _, _, z⟩ := h
  exact z.elim⟩
theorem dt_bad {X : Cx} {Z : Pm} {W : WX} {e : Expr} : DT X Z W e (fun _ => .bad) := ⟨fun _ _ _ _ _ _ h => by
  obtain ⟨_, _, _, _, z⟩ := h
  exact z.elim⟩

/-! ### the heap grows -/
/-- what is new is frozen -/
def grow (G H H' : Hp) : Hp := fun b => match G b with
  | some o => some o
  | none => match H b with
    | some _ => none
    | none => H' b
theorem grow_old {G H H' : Hp} {b : Addr} {o : HO} (h : G b = some o) : grow G H H' b = some o := by
  unfold grow
  rw [h]
theorem grow_new {G H H' : Hp} {b : Addr} (g : Same G H) (h : H b = none) : grow G H H' b = H' b := by
  unfold grow
  cases e : G b with
  | some o =>
    rw [g _ _ e] at h
    cases h
  | none => rw [h]
theorem grow_none {G H H' : Hp} {b : Addr} {o : HO} (h : G b = none) (e : H b = some o) : grow G H H' b = none := by
  unfold grow
  rw [h, e]
theorem grow_same {G H H' : Hp} : Same G (grow G H H') := fun _ _ h => grow_old h
theorem grow_cases {G H H' : Hp} {b : Addr} {o : HO} (h : grow G H H' b = some o) : G b = some o ∨ (G b = none ∧ H b = none ∧ H' b = some o) := by
  unfold grow at h
  cases e : G b with
  | some o' =>
    rw [e] at h
    exact .inl h
  | none =>
    rw [e] at h
    cases e' : H b with
    | some o' =>
      rw [e'] at h
      cases h
    | none =>
      rw [e'] at h
      exact .inr ⟨rfl, rfl, h⟩
section
variable {Z : Pm} {ρ : Env} {σ : L2.St} {G : Hp} {O : Own} {H H' : Hp}
theorem CellOk.keep {G' : Hp} {O' : Own} {i : Nat} {c : Cell} (h : CellOk Z σ G O H i c) (gg : Same G G') (ho : ∀ a, O a = some i → O' a = some i) (hh : ∀ a o, O a = some i → H a = some o → H' a = some o) : CellOk Z σ G' O' H' i c := by
  cases c with
  | no => trivial
  | fr d =>
    obtain ⟨v, h1, h2⟩ := h
    exact ⟨v, h1, h2.mono gg⟩
  | ol b ds =>
    obtain ⟨a, vs, h1, h2, h3, h4, h5⟩ := h
    exact ⟨a, vs, h1, ho _ h2, hh _ _ h2 h3, h4.mono gg, h5⟩
  | od b kvs =>
    obtain ⟨a, h1, h2, h3, h5⟩ := h
    refine ⟨a, h1, ho _ h2, ?_, h5⟩
    obtain ⟨kv, e, r⟩ := h3
    exact ⟨kv, hh _ _ h2 e, r.mono gg⟩
  | oi b c fs =>
    obtain ⟨a, dx, fvs, h1, h2, h3, h4, h5⟩ := h
    exact ⟨a, dx, fvs, h1, ho _ h2, hh _ _ h2 h3, Paired.mapP h4 fun _ _ q => ⟨q.1, q.2.mono gg⟩, h5⟩
  | dl kvs =>
    obtain ⟨a, kv, h1, h2, h3, h4, h5⟩ := h
    refine ⟨a, kv, h1, ho _ h2, hh _ _ h2 h3, Paired.mapP h4 fun _ _ q => ?_, h5⟩
    obtain ⟨q1, b, vs, q2, q3, q4, q5⟩ := q
    exact ⟨q1, b, vs, q2, ho _ q3, hh _ _ q3 q4, q5.mono gg⟩
theorem Rel.grow (R : Rel Z ρ σ G O H) (e : Same H H') : Rel Z ρ σ (grow G H H') O H' := by
  refine ⟨R.len, fun b o h => ?_, fun a h => ?_, fun a h => ?_, fun i c h => (R.cell i c h).keep grow_same (fun _ q => q) fun a o _ q => e _ _ q⟩
  · rcases grow_cases h with q | ⟨_, _, q⟩
    · exact e _ _ (R.gh _ _ q)
    · exact q
  · cases q : H a with
    | none => exact absurd q (R.oh a h)
    | some o => exact grow_none (R.go a h) q
  · cases q : H a with
    | none => exact absurd q (R.oh a h)
    | some o =>
      rw [e _ _ q]
      exact fun z => nomatch z
theorem Rel.stepGrow (R : Rel Z ρ σ G O H) (e : Same H H') : Step G O H (DL.grow G H H') O H' := by
  refine ⟨grow_same, fun b h => ?_, fun b h => .inl h, fun b o h _ => e _ _ h⟩
  cases q : DL.grow G H H' b with
  | none => exact absurd q h
  | some o =>
    rcases grow_cases q with z | ⟨_, z, _⟩
    · exact .inl (by rw [z]; exact fun z => nomatch z)
    · exact .inr (.inr z)
theorem same_new {p : Addr} {o : HO} (h : H p = none) : Same H (upd H p o) := fun b x e => by
  rw [upd_ne (ne_of_none e h)]
  exact e
theorem grow_at {p : Addr} {o : HO} (g : Same G H) (h : H p = none) : grow G H (upd H p o) p = some o := by
  rw [grow_new g h, upd_same]
end
end DL

/-! D1: expressions. -/
namespace DL
open PySem PySem.Spec PyProof.Rows L2

/-! ### names -/
def eVar (i : Nat) : Env → R PyData := fun ρ => match ρ[i]? with
  | some (.fr d) => .ok d ρ
  | some (.ol _ ds) => .ok (.list ds) (ρ.set i (.fr (.list ds)))
  | some (.od _ kvs) => .ok (.dict kvs) (ρ.set i (.fr (.dict kvs)))
  | _ => .bad
def Own.del (O : Own) (a : Addr) : Own := fun b => if b = a then none else O b
theorem Own.del_same {O : Own} {a : Addr} : O.del a a = none := by
  unfold Own.del
  rw [if_pos rfl]
theorem Own.del_ne {O : Own} {a b : Addr} (h : b ≠ a) : O.del a b = O b := by
  unfold Own.del
  rw [if_neg h]
theorem Own.del_some {O : Own} {a b : Addr} (h : O.del a b ≠ none) : b ≠ a ∧ O b ≠ none := by
  by_cases e : b = a
  · subst e
    exact absurd Own.del_same h
  · rw [Own.del_ne e] at h
    exact ⟨e, h⟩
section
variable {Z : Pm} {ρ : Env} {σ : L2.St} {G : Hp} {O : Own} {H : Hp}
theorem get_set_self {ρ : Env} {i : Nat} {c c' : Cell} (h : ρ[i]? = some c) : (ρ.set i c')[i]? = some c' := by
  rw [List.getElem?_set_self]
  exact (List.getElem?_eq_some_iff.mp h).1
theorem get_set_ne {ρ : Env} {i j : Nat} {c' : Cell} (h : i ≠ j) : (ρ.set i c')[j]? = ρ[j]? := List.getElem?_set_ne h
/-- the owned object of the slot i goes over to the frozen heap, as o (the heap there is o then, too) -/
theorem Rel.give (R : Rel Z ρ σ G O H) {i : Nat} {a : Addr} {o : HO} {d : PyData} (hs : σ[i]? = some (some (.ref a))) (ho : O a = some i) (hd : Dr Z.K (upd G a o) (.ref a) d) (hi : i < ρ.length) :
    Rel Z (ρ.set i (.fr d)) σ (upd G a o) (O.del a) (upd H a o) ∧ Step G O H (upd G a o) (O.del a) (upd H a o) := by
  have ga : G a = none := R.go a (by rw [ho]; exact fun z => nomatch z)
  have gg : Same G (upd G a o) := same_new ga
  refine ⟨⟨by rw [List.length_set]; exact R.len, fun b x h => ?_, fun b h => ?_, fun b h => ?_, fun j c h => ?_⟩, gg, fun b h => ?_, fun b h => .inl (Own.del_some h).2, fun b x h n => ?_⟩
  · by_cases e : b = a
    · subst e
      rw [upd_same] at h ⊢
      exact h
    · rw [upd_ne e] at h ⊢
      exact R.gh _ _ h
  · obtain ⟨e, h⟩ := Own.del_some h
    rw [upd_ne e]
    exact R.go b h
  · obtain ⟨e, h⟩ := Own.del_some h
    rw [upd_ne e]
    exact R.oh b h
  · by_cases e : i = j
    · subst e
      rw [List.getElem?_set_self hi] at h
      cases h
      exact ⟨_, hs, hd⟩
    · rw [get_set_ne e] at h
      have nb : ∀ b, O b = some j → b ≠ a := fun b hb z => by
        rw [z, ho] at hb
        exact e (Option.some.inj hb)
      exact (R.cell j c h).keep gg (fun b hb => by rw [Own.del_ne (nb b hb)]; exact hb) fun b x hb hx => by
        rw [upd_ne (nb b hb)]
        exact hx
  · by_cases e : b = a
    · subst e
      exact .inr (.inl (by rw [ho]; exact fun z => nomatch z))
    · rw [upd_ne e] at h
      exact .inl h
  · have e : b ≠ a := fun z => by
      rw [z, ho] at n
      cases n
    rw [upd_ne e]
    exact h
theorem upd_self' {H : Hp} {a : Addr} {o : HO} (h : H a = some o) : upd H a o = H := by
  funext b
  by_cases e : b = a
  · subst e
    rw [upd_same, h]
  · rw [upd_ne e]
end
/-- a name that is read: its value, or a dict that is locked for good -/
def tVarF (i : Nat) : TE := fun σ H Q => ∃ v, σ[i]? = some (some v) ∧ (Q v H ∨ ∃ a u, v = .ref a ∧ H a = some u ∧ Mut (some u) ∧ ∀ od, Q v (upd H a (.frz od u)))
section
variable {X : Cx} {Z : Pm} {W : WX}
theorem pe_varF {e : Expr} {i : Nat} (h : PE X e (tVar i)) : PE X e (tVarF i) := by
  refine ⟨fun pins s σ H Q I q => ?_⟩
  obtain ⟨v, e1, q⟩ := q
  refine thn (h.run pins s σ H (fun v' H' => v' = v ∧ H' = H) I ⟨v, e1, rfl, rfl⟩) fun u s1 ⟨v', H', I1, r, e2, e3⟩ => ?_
  subst e2
  subst e3
  rcases q with q | ⟨a, u', e4, hu, mu, q⟩
  · exact ⟨_, _, I1, r, q⟩
  · obtain ⟨od, I2⟩ := I1.lock hu mu
    exact ⟨_, _, I2, r, q od⟩
theorem de_var {x : Str} {pos : Pos} (i : Nat) (h : PE X (.Name x pos) (tVar i)) : DE X Z W (.Name x pos) (eVar i) := by
  refine PE_imp (pe_varF h) fun σ H Q ⟨ρ, G, O, R, P⟩ => ?_
  unfold eVar at P
  cases e : ρ[i]? with
  | none =>
    rw [e] at P
    exact P.elim
  | some c =>
    rw [e] at P
    have hi : i < ρ.length := (List.getElem?_eq_some_iff.mp e).1
    cases c with
    | no => exact P.elim
    | fr d =>
      obtain ⟨v, h1, h2⟩ := R.cell i _ e
      exact ⟨v, h1, .inl (P v G O H R Step.refl h2)⟩
    | ol b ds =>
      obtain ⟨a, vs, h1, h2, h3, h4, h5⟩ := R.cell i _ e
      have ga : G a = none := R.go a (by rw [h2]; exact fun z => nomatch z)
      have D : Dr Z.K (upd G a (.lst vs)) (.ref a) (.list ds) := .lst (SqL.of upd_same) (h4.mono (same_new ga))
      obtain ⟨R', S'⟩ := R.give (o := .lst vs) h1 h2 D hi
      rw [upd_self' h3] at R' S'
      exact ⟨_, h1, .inl (P _ _ _ _ R' S' D)⟩
    | od b kvs =>
      obtain ⟨a, h1, h2, h3, h5⟩ := R.cell i _ e
      have ga : G a = none := R.go a (by rw [h2]; exact fun z => nomatch z)
      obtain ⟨kv, e3, r3⟩ := h3
      refine ⟨_, h1, .inr ⟨a, _, rfl, e3, trivial, fun od => ?_⟩⟩
      have D : Dr Z.K (upd G a (.frz od (.dK kv))) (.ref a) (.dict kvs) := .dK upd_same (r3.mono (same_new ga))
      obtain ⟨R', S'⟩ := R.give (o := .frz od (.dK kv)) h1 h2 D hi
      exact P _ _ _ _ R' S' D
    | oi b c fs => exact P.elim
    | dl kvs => exact P.elim

/-! ### constants -/
def eC (d : PyData) : Env → R PyData := fun ρ => .ok d ρ
theorem td_c {v : V} {d : PyData} (h : ∀ G, Dr Z.K G v d) : ∀ σ H Q, TD Z W (eC d) σ H Q → tC v σ H Q := fun σ H Q ⟨ρ, G, O, R, P⟩ => P v G O H R Step.refl (h G)
theorem de_int {i : Int} {j pos} : DE X Z W (.Constant (.int i) j pos) (eC (.int i)) := PE_imp pe_int (td_c fun _ => .int i)
theorem de_bl {b : Bool} {j pos} : DE X Z W (.Constant (.bool b) j pos) (eC (.bool b)) := PE_imp pe_bl (td_c fun _ => .bl b)
theorem de_non {j pos} : DE X Z W (.Constant .none j pos) (eC .none) := PE_imp pe_non (td_c fun _ => .non)
theorem de_str {x : Str} {j pos} : DE X Z W (.Constant (.str x) j pos) (eC (.str x)) := PE_imp pe_str (td_c fun _ => .str x)
/-- a module's constant -/
theorem de_glob {x : Str} {v : V} {u : Value} {d : PyData} {pos : Pos} (hg : Gl X x) (hm : X.mg x = some u) (r : RelV v u) (h : ∀ G, Dr Z.K G v d) (hd : (x == ("__debug__" : Str)) = false := by decide) : DE X Z W (.Name x pos) (eC d) :=
  PE_imp (pe_glob hg hm r hd) (td_c h)

/-! ### arguments, displays -/
def aNil : Env → R (List PyData) := fun ρ => .ok [] ρ
def aCons (f : Env → R PyData) (g : Env → R (List PyData)) : Env → R (List PyData) := fun ρ => (f ρ).bind fun d ρ1 => (g ρ1).bind fun ds ρ2 => .ok (d :: ds) ρ2
/-- with its length -/
def ArgR (Z : Pm) (n : Nat) : Hp → Own → Hp → List V → List PyData → Prop := fun G _ _ v d => DrL Z.K G v d ∧ d.length = n
abbrev TA_ (Z : Pm) (W : WX) (n : Nat) (f : Env → R (List PyData)) : TA := T_ Z W (ArgR Z n) f
abbrev DAs (X : Cx) (Z : Pm) (W : WX) (es : List Expr) (f : Env → R (List PyData)) : Prop := PA X es (TA_ Z W es.length f)
theorem da_nil : DAs X Z W [] aNil := PA_imp pa_nil fun σ H Q ⟨ρ, G, O, R, P⟩ => P [] G O H R Step.refl ⟨.nil, rfl⟩
theorem da_cons {e : Expr} {es : List Expr} {f : Env → R PyData} {g : Env → R (List PyData)} (h1 : DE X Z W e f) (h2 : DAs X Z W es g) (hs : starEach (e :: es) X.env = (false, eval e X.env) :: starEach es X.env := by rfl) : DAs X Z W (e :: es) (aCons f g) := by
  refine PA_imp (pa_cons h1 h2 hs) fun σ H Q ⟨ρ, G, O, R, P⟩ => ?_
  refine t_bind R P fun d ρ1 v G1 O1 H1 e1 R1 S1 D1 P1 => ?_
  refine t_bind R1 P1 fun ds ρ2 vs G2 O2 H2 e2 R2 S2 D2 P2 => ?_
  exact P2 _ G2 O2 H2 R2 Step.refl ⟨.cons (D1.mono S2.gg) D2.1, congrArg (· + 1) D2.2⟩
/-- a pure result -/
theorem post_pure {σ : L2.St} {ρ : Env} {G : Hp} {O : Own} {H : Hp} {Q : VK} {z : PyData} (R0 : Rel Z ρ σ G O H) (h : Post Z W (fun G _ _ v d => Dr Z.K G v d) σ G O H Q (.ok z ρ)) :
    ∀ v H', Same H H' → Dr Z.K (grow G H H') v z → Q v H' := fun v H' s D => h v _ O H' (R0.grow s) (R0.stepGrow s) D
/-- a display of a tuple, its object known -/
def tTupF (t : TA) : TE := fun σ H Q => t σ H fun vs H1 => vs.length ≤ sizeLine ∧ ∀ p o, H1 p = none → o.dict = none → Q (.ref p) (upd H1 p (.frz o (.tup vs)))
theorem pe_tupF {X : Cx} {es : List Expr} {x1} {pos : Pos} {t : TA} (h : PA X es t) : PE X (.Tuple es x1 pos) (tTupF t) := by
  refine ⟨fun pins s σ H Q I hq => ?_⟩
  refine wpAny_Tuple_spliced (thn (h.run pos pins s σ H _ I hq) fun us s1 ⟨xs, H1, I1, r, z, q⟩ => ⟨by rw [← r.length]; exact z, ?_⟩)
  have hf : H1 s1.heap.objs.size = none := I1.hok.fresh (Nat.le_refl _)
  refine ⟨.ref s1.heap.objs.size, upd H1 s1.heap.objs.size (.frz { cls := .type "tuple", data := .seq us.toArray } (.tup xs)), I1.laid (t' := s1.toks) (fun b u e => Heap.get?_push_of_some _ e) (Nat.le_refl _) ?_, rfl, q _ _ hf rfl⟩
  exact ⟨Heap.get?_push_size _ rfl, z, us, r, ⟨_, Heap.get?_push_size _ rfl, rfl, _, rfl⟩⟩
def eTup (g : Env → R (List PyData)) : Env → R PyData := fun ρ => (g ρ).bind fun ds ρ1 => .ok (.tuple ds) ρ1
def eLst (g : Env → R (List PyData)) : Env → R PyData := fun ρ => (g ρ).bind fun ds ρ1 => .ok (.list ds) ρ1
theorem sz1000 {n : Nat} (h : n ≤ 1000) : n ≤ sizeLine := Nat.le_trans h (by decide)
theorem de_tup {es : List Expr} {x1} {pos : Pos} {g : Env → R (List PyData)} (h : DAs X Z W es g) (hl : es.length ≤ 1000 := by decide) : DE X Z W (.Tuple es x1 pos) (eTup g) := by
  refine PE_imp (pe_tupF h) fun σ H Q ⟨ρ, G, O, R, P⟩ => ?_
  refine t_bind R P fun ds ρ1 vs G1 O1 H1 e1 R1 S1 D1 P1 => ?_
  refine ⟨by rw [D1.1.len, D1.2]; exact sz1000 hl, fun p o hp ho => ?_⟩
  exact post_pure R1 P1 _ _ (same_new hp) (.tup ⟨o, grow_at R1.gh hp, ho⟩ (D1.1.mono grow_same))
theorem de_lst {es : List Expr} {pos : Pos} {g : Env → R (List PyData)} (h : DAs X Z W es g) (hl : es.length ≤ 1000 := by decide) : DE X Z W (.List es pos) (eLst g) := by
  refine PE_imp (pe_lst h) fun σ H Q ⟨ρ, G, O, R, P⟩ => ?_
  refine t_bind R P fun ds ρ1 vs G1 O1 H1 e1 R1 S1 D1 P1 => ?_
  refine ⟨by rw [D1.1.len, D1.2]; exact sz1000 hl, fun p hp => ?_⟩
  exact post_pure R1 P1 _ _ (same_new hp) (.lst (SqL.of (grow_at R1.gh hp)) (D1.1.mono grow_same))

/-! ### operators by values -/
def rD (K : PySem.W.Frag) (g : PyData → PyData → Option PyData) : R2 := fun x y H Q => ∃ G d e z, Same G H ∧ Dr K G x d ∧ Dr K G y e ∧ g d e = some z ∧ ∀ v H', Same H H' → Dr K (grow G H H') v z → Q v H'
def rDb (K : PySem.W.Frag) (g : PyData → PyData → Option Bool) : R2 := fun x y H Q => ∃ G d e z, Same G H ∧ Dr K G x d ∧ Dr K G y e ∧ g d e = some z ∧ Q (.bl z) H
def eOp (g : PyData → PyData → Option PyData) (fa fb : Env → R PyData) : Env → R PyData := fun ρ => (fa ρ).bind fun d ρ1 => (fb ρ1).bind fun e ρ2 => match g d e with
  | some z => .ok z ρ2
  | none => .bad
def eCmp (g : PyData → PyData → Option Bool) (fa fb : Env → R PyData) : Env → R PyData := fun ρ => (fa ρ).bind fun d ρ1 => (fb ρ1).bind fun e ρ2 => match g d e with
  | some z => .ok (.bool z) ρ2
  | none => .bad
def cCmp (g : PyData → PyData → Option Bool) (fa fb : Env → R PyData) : Env → R Bool := fun ρ => (fa ρ).bind fun d ρ1 => (fb ρ1).bind fun e ρ2 => match g d e with
  | some z => .ok z ρ2
  | none => .bad
theorem de_op {op : Operator} {g : PyData → PyData → Option PyData} {a b : Expr} {fa fb : Env → R PyData} {pos : Pos} (ho : OpR X (binaryOp op) (rD Z.K g)) (ha : DE X Z W a fa) (hb : DE X Z W b fb) : DE X Z W (.BinOp a op b pos) (eOp g fa fb) := by
  refine PE_imp (pe_op ho ha hb) fun σ H Q ⟨ρ, G, O, R, P⟩ => ?_
  refine t_bind R P fun d ρ1 v G1 O1 H1 e1 R1 S1 D1 P1 => ?_
  refine t_bind R1 P1 fun e ρ2 u G2 O2 H2 e2 R2 S2 D2 P2 => ?_
  cases hg : g d e with
  | none =>
    rw [hg] at P2
    exact P2.elim
  | some z =>
    rw [hg] at P2
    exact ⟨G2, d, e, z, R2.gh, D1.mono S2.gg, D2, hg, post_pure R2 P2⟩
theorem de_cmp {op : CmpOp} {g : PyData → PyData → Option Bool} {a b : Expr} {fa fb : Env → R PyData} {pos : Pos} (ho : OpR X (compareOp op) (rDb Z.K g)) (ha : DE X Z W a fa) (hb : DE X Z W b fb) (hm : behindInMarks op b = false) : DE X Z W (.Compare a [op] [b] pos) (eCmp g fa fb) := by
  refine PE_imp (pe_cmpR ho ha hb hm) fun σ H Q ⟨ρ, G, O, R, P⟩ => ?_
  refine t_bind R P fun d ρ1 v G1 O1 H1 e1 R1 S1 D1 P1 => ?_
  refine t_bind R1 P1 fun e ρ2 u G2 O2 H2 e2 R2 S2 D2 P2 => ?_
  cases hg : g d e with
  | none =>
    rw [hg] at P2
    exact P2.elim
  | some z =>
    rw [hg] at P2
    exact ⟨G2, d, e, z, R2.gh, D1.mono S2.gg, D2, hg, P2 _ _ _ _ R2 Step.refl (.bl z)⟩
theorem dt_cmp {op : CmpOp} {g : PyData → PyData → Option Bool} {a b : Expr} {fa fb : Env → R PyData} {pos : Pos} (ho : OpR X (compareOp op) (rDb Z.K g)) (ha : DE X Z W a fa) (hb : DE X Z W b fb) (hm : behindInMarks op b = false) : DT X Z W (.Compare a [op] [b] pos) (cCmp g fa fb) := by
  refine PT_imp (pt_cmpR ho ha hb hm) fun σ H Q ⟨ρ, G, O, R, P⟩ => ?_
  refine t_bind R P fun d ρ1 v G1 O1 H1 e1 R1 S1 D1 P1 => ?_
  refine t_bind R1 P1 fun e ρ2 u G2 O2 H2 e2 R2 S2 D2 P2 => ?_
  cases hg : g d e with
  | none =>
    rw [hg] at P2
    exact P2.elim
  | some z =>
    rw [hg] at P2
    exact ⟨G2, d, e, z, R2.gh, D1.mono S2.gg, D2, hg, z, rfl, P2 _ _ _ _ R2 Step.refl rfl⟩
/-- a op b op' c -/
def cChain (g g' : PyData → PyData → Option Bool) (fa fb fc : Env → R PyData) : Env → R Bool := fun ρ => (fa ρ).bind fun d ρ1 => (fb ρ1).bind fun e ρ2 => match g d e with
  | none => .bad
  | some false => .ok false ρ2
  | some true => (fc ρ2).bind fun f ρ3 => match g' e f with
    | some z => .ok z ρ3
    | none => .bad
theorem dt_chain {op op' : CmpOp} {g g' : PyData → PyData → Option Bool} {a b c : Expr} {fa fb fc : Env → R PyData} {pos : Pos} (ho : OpR X (compareOp op) (rDb Z.K g)) (ho' : OpR X (compareOp op') (rDb Z.K g')) (ha : DE X Z W a fa) (hb : DE X Z W b fb) (hc : DE X Z W c fc)
    (hm : lastMarks [op, op'] [b, c] = false := by with_unfolding_all rfl) : DT X Z W (.Compare a [op, op'] [b, c] pos) (cChain g g' fa fb fc) := by
  refine PT_imp (pt_chain ho ho' ha hb hc hm) fun σ H Q ⟨ρ, G, O, R, P⟩ => ?_
  refine t_bind R P fun d ρ1 v G1 O1 H1 e1 R1 S1 D1 P1 => ?_
  refine t_bind R1 P1 fun e ρ2 u G2 O2 H2 e2 R2 S2 D2 P2 => ?_
  cases hg : g d e with
  | none =>
    rw [hg] at P2
    exact P2.elim
  | some z =>
    rw [hg] at P2
    refine ⟨G2, d, e, z, R2.gh, D1.mono S2.gg, D2, hg, z, rfl, ?_⟩
    cases z with
    | false =>
      rw [if_neg Bool.false_ne_true]
      exact ⟨false, rfl, P2 _ _ _ _ R2 Step.refl rfl⟩
    | true =>
      rw [if_pos rfl]
      refine t_bind R2 P2 fun f ρ3 y G3 O3 H3 e3 R3 S3 D3 P3 => ?_
      cases hg' : g' e f with
      | none =>
        rw [hg'] at P3
        exact P3.elim
      | some z' =>
        rw [hg'] at P3
        exact ⟨G3, e, f, z', R3.gh, D2.mono S3.gg, D3, hg', z', rfl, P3 _ _ _ _ R3 Step.refl rfl⟩
def eChain (g g' : PyData → PyData → Option Bool) (fa fb fc : Env → R PyData) : Env → R PyData := fun ρ => (fa ρ).bind fun d ρ1 => (fb ρ1).bind fun e ρ2 => match g d e with
  | none => .bad
  | some false => .ok (.bool false) ρ2
  | some true => (fc ρ2).bind fun f ρ3 => match g' e f with
    | some z => .ok (.bool z) ρ3
    | none => .bad
theorem de_chain {op op' : CmpOp} {g g' : PyData → PyData → Option Bool} {a b c : Expr} {fa fb fc : Env → R PyData} {pos : Pos} (ho : OpR X (compareOp op) (rDb Z.K g)) (ho' : OpR X (compareOp op') (rDb Z.K g')) (ha : DE X Z W a fa) (hb : DE X Z W b fb) (hc : DE X Z W c fc)
    (hm : lastMarks [op, op'] [b, c] = false := by with_unfolding_all rfl) : DE X Z W (.Compare a [op, op'] [b, c] pos) (eChain g g' fa fb fc) := by
  refine PE_imp (pe_chain ho ho' ha hb hc hm) fun σ H Q ⟨ρ, G, O, R, P'⟩ => ?_
  refine t_bind R P' fun d ρ1 v G1 O1 H1 e1 R1 S1 D1 P1 => ?_
  refine t_bind R1 P1 fun e ρ2 u G2 O2 H2 e2 R2 S2 D2 P2 => ?_
  cases hg : g d e with
  | none =>
    rw [hg] at P2
    exact P2.elim
  | some z =>
    rw [hg] at P2
    refine ⟨G2, d, e, z, R2.gh, D1.mono S2.gg, D2, hg, z, rfl, ?_⟩
    cases z with
    | false =>
      rw [if_neg Bool.false_ne_true]
      exact P2 _ _ _ _ R2 Step.refl (.bl false)
    | true =>
      rw [if_pos rfl]
      refine t_bind R2 P2 fun f ρ3 y G3 O3 H3 e3 R3 S3 D3 P3 => ?_
      cases hg' : g' e f with
      | none =>
        rw [hg'] at P3
        exact P3.elim
      | some z' =>
        rw [hg'] at P3
        exact ⟨G3, e, f, z', R3.gh, D2.mono S3.gg, D3, hg', P3 _ _ _ _ R3 Step.refl (.bl z')⟩
/-! one operand -/
def rD1 (K : PySem.W.Frag) (g : PyData → Option PyData) : V → Hp → VK → Prop := fun x H Q => ∃ G d z, Same G H ∧ Dr K G x d ∧ g d = some z ∧ ∀ v H', Same H H' → Dr K (grow G H H') v z → Q v H'
def eUn (g : PyData → Option PyData) (fa : Env → R PyData) : Env → R PyData := fun ρ => (fa ρ).bind fun d ρ1 => match g d with
  | some z => .ok z ρ1
  | none => .bad
theorem de_un {op : UnaryOp} {g : PyData → Option PyData} {a : Expr} {fa : Env → R PyData} {pos : Pos} (ho : UnR X (unaryOp op) (rD1 Z.K g)) (ha : DE X Z W a fa) : DE X Z W (.UnaryOp op a pos) (eUn g fa) := by
  refine PE_imp (pe_un ho ha) fun σ H Q ⟨ρ, G, O, R, P⟩ => ?_
  refine t_bind R P fun d ρ1 v G1 O1 H1 e1 R1 S1 D1 P1 => ?_
  cases hg : g d with
  | none =>
    rw [hg] at P1
    exact P1.elim
  | some z =>
    rw [hg] at P1
    exact ⟨G1, d, z, R1.gh, D1, hg, post_pure R1 P1⟩
/-! ### is None -/
def isNon : PyData → Bool
  | .none => true
  | _ => false
def eIsN (fa : Env → R PyData) : Env → R PyData := fun ρ => (fa ρ).bind fun d ρ1 => .ok (.bool (isNon d)) ρ1
def eNotN (fa : Env → R PyData) : Env → R PyData := fun ρ => (fa ρ).bind fun d ρ1 => .ok (.bool (!isNon d)) ρ1
def cIsN (fa : Env → R PyData) : Env → R Bool := fun ρ => (fa ρ).bind fun d ρ1 => .ok (isNon d) ρ1
def cNotN (fa : Env → R PyData) : Env → R Bool := fun ρ => (fa ρ).bind fun d ρ1 => .ok (!isNon d) ρ1
theorem dr_non {K : PySem.W.Frag} {G : Hp} {v : V} {d : PyData} (h : Dr K G v d) : decide (v = .non) = isNon d := by
  cases h <;> rfl
theorem de_isN {a : Expr} {fa : Env → R PyData} {pos j pos'} (ha : DE X Z W a fa) : DE X Z W (.Compare a [.Is] [.Constant .none j pos'] pos) (eIsN fa) := by
  refine PE_imp (pe_cmp (pc_isN ha)) fun σ H Q ⟨ρ, G, O, R, P⟩ => ?_
  refine t_bind R P fun d ρ1 v G1 O1 H1 e1 R1 S1 D1 P1 => ?_
  show Q (.bl (decide (v = .non))) H1
  rw [dr_non D1]
  exact P1 _ _ _ _ R1 Step.refl (.bl _)
theorem de_notN {a : Expr} {fa : Env → R PyData} {pos j pos'} (ha : DE X Z W a fa) : DE X Z W (.Compare a [.IsNot] [.Constant .none j pos'] pos) (eNotN fa) := by
  refine PE_imp (pe_cmp (pc_notN ha)) fun σ H Q ⟨ρ, G, O, R, P⟩ => ?_
  refine t_bind R P fun d ρ1 v G1 O1 H1 e1 R1 S1 D1 P1 => ?_
  show Q (.bl (!decide (v = .non))) H1
  rw [dr_non D1]
  exact P1 _ _ _ _ R1 Step.refl (.bl _)
/-! ### tests -/
/-- a value that is a bool, as a test -/
def cVal (f : Env → R PyData) : Env → R Bool := fun ρ => (f ρ).bind fun d ρ1 => match d with
  | .bool b => .ok b ρ1
  | _ => .bad
theorem dt_val {e : Expr} {f : Env → R PyData} (h : DE X Z W e f) (he : ∀ whole, isTrue e X.env whole = (do let v ← whole; standAt e.pos; holding [v] (truthy v)) := by intro _; rfl) : DT X Z W e (cVal f) := by
  refine PT_imp (pt_val h he) fun σ H Q ⟨ρ, G, O, R, P⟩ => ?_
  refine t_bind R P fun d ρ1 v G1 O1 H1 e1 R1 S1 D1 P1 => ?_
  cases D1 with
  | bl b => exact ⟨b, rfl, P1 _ _ _ _ R1 Step.refl rfl⟩
  | _ => exact P1.elim
theorem dt_isN {a : Expr} {fa : Env → R PyData} {pos j pos'} (ha : DE X Z W a fa) : DT X Z W (.Compare a [.Is] [.Constant .none j pos'] pos) (cIsN fa) := by
  refine PT_imp (pt_cmp (pc_isN ha)) fun σ H Q ⟨ρ, G, O, R, P⟩ => ?_
  refine t_bind R P fun d ρ1 v G1 O1 H1 e1 R1 S1 D1 P1 => ?_
  refine ⟨_, rfl, ?_⟩
  rw [dr_non D1]
  exact P1 _ _ _ _ R1 Step.refl rfl
theorem dt_notN {a : Expr} {fa : Env → R PyData} {pos j pos'} (ha : DE X Z W a fa) : DT X Z W (.Compare a [.IsNot] [.Constant .none j pos'] pos) (cNotN fa) := by
  refine PT_imp (pt_cmp (pc_notN ha)) fun σ H Q ⟨ρ, G, O, R, P⟩ => ?_
  refine t_bind R P fun d ρ1 v G1 O1 H1 e1 R1 S1 D1 P1 => ?_
  refine ⟨_, rfl, ?_⟩
  rw [dr_non D1]
  exact P1 _ _ _ _ R1 Step.refl rfl
def cAnd (c d : Env → R Bool) : Env → R Bool := fun ρ => (c ρ).bind fun b ρ1 => if b = true then d ρ1 else .ok false ρ1
def cOr (c d : Env → R Bool) : Env → R Bool := fun ρ => (c ρ).bind fun b ρ1 => if b = true then .ok true ρ1 else d ρ1
def cNot (c : Env → R Bool) : Env → R Bool := fun ρ => (c ρ).bind fun b ρ1 => .ok (!b) ρ1
theorem dw_and1 {a : Expr} {c : Env → R Bool} {pos : Pos} (h : DT X Z W a c) : DW X Z W (.BoolOp .And [a] pos) c := pw_and1 h
theorem dw_or1 {a : Expr} {c : Env → R Bool} {pos : Pos} (h : DT X Z W a c) : DW X Z W (.BoolOp .Or [a] pos) c := pw_or1 h
theorem dw_and {a b : Expr} {rest : List Expr} {c d : Env → R Bool} {pos : Pos} (h : DT X Z W a c) (h2 : DW X Z W (.BoolOp .And (b :: rest) pos) d) : DW X Z W (.BoolOp .And (a :: b :: rest) pos) (cAnd c d) := by
  refine PW_imp (pw_and h h2) fun σ H Q ⟨ρ, G, O, R, P⟩ => ?_
  refine t_bind R P fun b ρ1 v G1 O1 H1 e1 R1 S1 D1 P1 => ?_
  subst D1
  cases v with
  | true =>
    rw [if_pos rfl] at P1 ⊢
    exact ⟨ρ1, G1, O1, R1, P1⟩
  | false =>
    rw [if_neg Bool.false_ne_true] at P1 ⊢
    exact P1 _ _ _ _ R1 Step.refl rfl
theorem dw_or {a b : Expr} {rest : List Expr} {c d : Env → R Bool} {pos : Pos} (h : DT X Z W a c) (h2 : DW X Z W (.BoolOp .Or (b :: rest) pos) d) : DW X Z W (.BoolOp .Or (a :: b :: rest) pos) (cOr c d) := by
  refine PW_imp (pw_or h h2) fun σ H Q ⟨ρ, G, O, R, P⟩ => ?_
  refine t_bind R P fun b ρ1 v G1 O1 H1 e1 R1 S1 D1 P1 => ?_
  subst D1
  cases v with
  | true =>
    rw [if_pos rfl] at P1 ⊢
    exact P1 _ _ _ _ R1 Step.refl rfl
  | false =>
    rw [if_neg Bool.false_ne_true] at P1 ⊢
    exact ⟨ρ1, G1, O1, R1, P1⟩
theorem dt_w {a : Expr} {c : Env → R Bool} (h : DW X Z W a c) : DT X Z W a c := PW.pt h
theorem dt_not {a : Expr} {c : Env → R Bool} {pos : Pos} (h : DT X Z W a c) : DT X Z W (.UnaryOp .Not a pos) (cNot c) := by
  refine PT_imp (pt_not h) fun σ H Q ⟨ρ, G, O, R, P⟩ => ?_
  refine t_bind R P fun b ρ1 v G1 O1 H1 e1 R1 S1 D1 P1 => ?_
  subst D1
  exact P1 _ _ _ _ R1 Step.refl rfl
/-! and, or, not as values -/
def eAnd (fa fb : Env → R PyData) : Env → R PyData := fun ρ => (fa ρ).bind fun d ρ1 => match d with
  | .bool b => if b = true then fb ρ1 else .ok (.bool false) ρ1
  | _ => .bad
def eOr (fa fb : Env → R PyData) : Env → R PyData := fun ρ => (fa ρ).bind fun d ρ1 => match d with
  | .bool b => if b = true then .ok (.bool true) ρ1 else fb ρ1
  | _ => .bad
def eNot (fa : Env → R PyData) : Env → R PyData := fun ρ => (fa ρ).bind fun d ρ1 => match d with
  | .bool b => .ok (.bool (!b)) ρ1
  | _ => .bad
theorem de_one {op} {a : Expr} {f : Env → R PyData} {pos : Pos} (h : DE X Z W a f) : DE X Z W (.BoolOp op [a] pos) f := pe_one h
theorem de_and {a b : Expr} {rest : List Expr} {fa fb : Env → R PyData} {pos : Pos} (h : DE X Z W a fa) (h2 : DE X Z W (.BoolOp .And (b :: rest) pos) fb) : DE X Z W (.BoolOp .And (a :: b :: rest) pos) (eAnd fa fb) := by
  refine PE_imp (pe_and h h2) fun σ H Q ⟨ρ, G, O, R, P⟩ => ?_
  refine t_bind R P fun d ρ1 v G1 O1 H1 e1 R1 S1 D1 P1 => ?_
  cases D1 with
  | bl b =>
    refine ⟨b, rfl, ?_⟩
    cases b with
    | true =>
      have P1 : Post Z W _ σ G1 O1 H1 Q (fb ρ1) := P1
      rw [if_pos rfl]
      exact ⟨ρ1, G1, O1, R1, P1⟩
    | false =>
      rw [if_neg Bool.false_ne_true]
      exact P1 _ _ _ _ R1 Step.refl (.bl false)
  | _ => exact P1.elim
theorem de_or {a b : Expr} {rest : List Expr} {fa fb : Env → R PyData} {pos : Pos} (h : DE X Z W a fa) (h2 : DE X Z W (.BoolOp .Or (b :: rest) pos) fb) : DE X Z W (.BoolOp .Or (a :: b :: rest) pos) (eOr fa fb) := by
  refine PE_imp (pe_or h h2) fun σ H Q ⟨ρ, G, O, R, P⟩ => ?_
  refine t_bind R P fun d ρ1 v G1 O1 H1 e1 R1 S1 D1 P1 => ?_
  cases D1 with
  | bl b =>
    refine ⟨b, rfl, ?_⟩
    cases b with
    | true =>
      rw [if_pos rfl]
      exact P1 _ _ _ _ R1 Step.refl (.bl true)
    | false =>
      have P1 : Post Z W _ σ G1 O1 H1 Q (fb ρ1) := P1
      rw [if_neg Bool.false_ne_true]
      exact ⟨ρ1, G1, O1, R1, P1⟩
  | _ => exact P1.elim
theorem de_not {a : Expr} {fa : Env → R PyData} {pos : Pos} (h : DE X Z W a fa) : DE X Z W (.UnaryOp .Not a pos) (eNot fa) := by
  refine PE_imp (pe_not h) fun σ H Q ⟨ρ, G, O, R, P⟩ => ?_
  refine t_bind R P fun d ρ1 v G1 O1 H1 e1 R1 S1 D1 P1 => ?_
  cases D1 with
  | bl b => exact ⟨b, rfl, P1 _ _ _ _ R1 Step.refl (.bl _)⟩
  | _ => exact P1.elim
def eIf (c : Env → R Bool) (fa fb : Env → R PyData) : Env → R PyData := fun ρ => (c ρ).bind fun b ρ1 => if b = true then fa ρ1 else fb ρ1
theorem de_if {c a b : Expr} {fc : Env → R Bool} {fa fb : Env → R PyData} {pos : Pos} (hc : DT X Z W c fc) (ha : DE X Z W a fa) (hb : DE X Z W b fb) : DE X Z W (.IfExp c a b pos) (eIf fc fa fb) := by
  refine PE_imp (pe_ifExp hc ha hb) fun σ H Q ⟨ρ, G, O, R, P⟩ => ?_
  refine t_bind R P fun b ρ1 v G1 O1 H1 e1 R1 S1 D1 P1 => ?_
  subst D1
  cases v with
  | true =>
    rw [if_pos rfl] at P1 ⊢
    exact ⟨ρ1, G1, O1, R1, P1⟩
  | false =>
    rw [if_neg Bool.false_ne_true] at P1 ⊢
    exact ⟨ρ1, G1, O1, R1, P1⟩
end
end DL

/-! D2: operators on data. -/
namespace DL
open PySem PySem.Spec PyProof.Rows L2
section
variable {X : Cx} {K : PySem.W.Frag}

/-! ### lists joined, whatever they are -/
theorem op_catS : OpR X (binaryOp .Add) (fun x y H Q => ∃ l b xs zs, x = .ref l ∧ y = .ref b ∧ SqL X.K H l xs ∧ SqL X.K H b zs ∧ xs.length + zs.length ≤ sizeLine ∧ ∀ p, H p = none → Q (.ref p) (upd H p (.lst (xs ++ zs)))) := by
  intro pins s σ H x y v u Q I rx ry h
  obtain ⟨l, b, xs, zs, rfl, rfl, hH, hB, hz, q⟩ := h
  cases rx
  cases ry
  obtain ⟨its, r, ⟨⟨cls, dd, data, sl⟩, n, ho, hc, hdn, hdt⟩, hl⟩ := I.list hH
  obtain ⟨its2, r2, ⟨⟨cls2, dd2, data2, sl2⟩, n2, ho2, hc2, hdn2, hdt2⟩, hl2⟩ := I.list hB
  simp only at hc hdt hc2 hdt2
  subst hc hdt hc2 hdt2
  have e : its.toArray ++ its2.toArray = (its ++ its2).toArray := by simp
  refine PySem.concat_meets ⟨_, ho, rfl⟩ ⟨_, ho2, rfl⟩ noFill_list_add seq_list_add PySem.F.slot_list_add PySem.F.entry_list_add (PySem.F.args_list_add_2 _ _) (list_addW l b its.toArray its2.toArray n n2 dd dd2 sl sl2 (by rw [List.size_toArray, List.size_toArray, ← r.length, ← r2.length]; exact hz)) ⟨ho, ho2, ?_⟩
  rw [e]
  exact ⟨.ref _, _, I.lnew (t' := s.toks) (r.append r2) (by rw [List.length_append]; exact hz), rfl, q _ I.fresh⟩

/-! ### tuples joined, their objects known -/
theorem op_catF : OpR X (binaryOp .Add) (fun x y H Q => ∃ a b xs ys, x = .ref a ∧ y = .ref b ∧ SqT X.K H a xs ∧ SqT X.K H b ys ∧ xs.length + ys.length ≤ sizeLine ∧
    (xs = [] → Q (.ref b) H) ∧ (xs ≠ [] → ys = [] → Q (.ref a) H) ∧ (xs ≠ [] → ys ≠ [] → ∀ p o, H p = none → o.dict = none → Q (.ref p) (upd H p (.frz o (.tup (xs ++ ys)))))) := by
  intro pins s σ H x y v u Q I rx ry h
  obtain ⟨a, b, xs, ys, rfl, rfl, ha, hb, hz, q0, q1, q2⟩ := h
  cases rx
  cases ry
  obtain ⟨its, r1, p1, _⟩ := I.tuple ha
  obtain ⟨its2, r2, p2, _⟩ := I.tuple hb
  by_cases hx : xs = []
  · subst hx
    cases r1
    exact cat_tup0 p1 p2 ⟨.ref b, H, I, rfl, q0 rfl⟩
  · refine HT.cat_tup p1 p2 (fun z => hx (r1.nil_iff.mp z)) (fun z => ⟨.ref a, H, I, rfl, q1 hx (r2.nil_iff.mp z)⟩) (fun z => ?_) (by rw [← r1.length, ← r2.length]; exact hz)
    refine ⟨.ref s.heap.objs.size, _, I.laid (t' := s.toks) (o := .frz { cls := .type "tuple", data := .seq (its ++ its2).toArray } (.tup (xs ++ ys))) (fun b ob q => Heap.get?_push_of_some _ q) (Nat.le_refl _) ?_, rfl, q2 hx (fun w => z (r2.nil_iff.mpr w)) _ _ (I.hok.fresh (Nat.le_refl _)) rfl⟩
    exact ⟨Heap.get?_push_size _ rfl, by rw [List.length_append]; exact hz, _, r1.append r2, IsTup.new _ _⟩
/-! ### + -/
def lim : Nat := 1000000
theorem lim_sz {n : Nat} (h : n ≤ lim) : n ≤ sizeLine := Nat.le_trans h (by decide)
def addD : PyData → PyData → Option PyData
  | .int i, .int j => some (.int (i + j))
  | .str a, .str b => if a.length + b.length ≤ lim then some (.str (a ++ b)) else none
  | .list a, .list b => if a.length + b.length ≤ lim then some (.list (a ++ b)) else none
  | .tuple a, .tuple b => if a.length + b.length ≤ lim then some (.tuple (a ++ b)) else none
  | _, _ => none
theorem ite_some {c : Prop} [Decidable c] {α : Type} {x z : α} (h : (if c then some x else none) = some z) : c ∧ x = z := by
  by_cases e : c
  · rw [if_pos e] at h
    exact ⟨e, Option.some.inj h⟩
  · rw [if_neg e] at h
    cases h
theorem od_add (hK : X.K = K) : OpR X (binaryOp .Add) (rD K addD) := by
  subst hK
  intro pins s σ H x y v u Q I rx ry ⟨G, d, e, z, g, hx, hy, hg, q⟩
  cases hx with
  | int i =>
    cases hy with
    | int j =>
      cases hg
      exact op_add pins s σ H _ _ v u Q I rx ry ⟨i, j, rfl, rfl, q _ _ (Same.refl _) (.int _)⟩
    | _ => cases hg
  | str a =>
    cases hy with
    | str b =>
      obtain ⟨hl, rfl⟩ := ite_some hg
      exact op_add_str pins s σ H _ _ v u Q I rx ry ⟨a, b, rfl, rfl, lim_sz hl, q _ _ (Same.refl _) (.str _)⟩
    | _ => cases hg
  | lst h1 h2 =>
    cases hy with
    | lst h3 h4 =>
      obtain ⟨hl, rfl⟩ := ite_some hg
      refine op_catS pins s σ H _ _ v u Q I rx ry ⟨_, _, _, _, rfl, rfl, same_l g h1, same_l g h3, by rw [h2.len, h4.len]; exact lim_sz hl, fun p hp => ?_⟩
      exact q _ _ (same_new hp) (.lst (SqL.of (grow_at g hp)) ((h2.append h4).mono grow_same))
    | _ => cases hg
  | tup h1 h2 =>
    cases hy with
    | tup h3 h4 =>
      obtain ⟨hl, rfl⟩ := ite_some hg
      refine op_catF pins s σ H _ _ v u Q I rx ry ⟨_, _, _, _, rfl, rfl, h1.sqT g, h3.sqT g, by rw [h2.len, h4.len]; exact lim_sz hl, fun e => ?_, fun e e' => ?_, fun e e' p o hp ho => ?_⟩
      · subst e
        cases h2
        exact q _ _ (Same.refl _) (.tup (h3.mono grow_same) (h4.mono grow_same))
      · subst e'
        cases h4
        rw [List.append_nil] at q
        exact q _ _ (Same.refl _) (.tup (h1.mono grow_same) (h2.mono grow_same))
      · exact q _ _ (same_new hp) (.tup ⟨o, grow_at g hp, ho⟩ ((h2.append h4).mono grow_same))
    | _ => cases hg
  | _ => cases hg

/-! ### ints -/
def subD : PyData → PyData → Option PyData
  | .int i, .int j => some (.int (i - j))
  | _, _ => none
theorem od_sub : OpR X (binaryOp .Sub) (rD K subD) := by
  intro pins s σ H x y v u Q I rx ry ⟨G, d, e, z, g, hx, hy, hg, q⟩
  cases hx with
  | int i =>
    cases hy with
    | int j =>
      cases hg
      exact op_sub pins s σ H _ _ v u Q I rx ry ⟨i, j, rfl, rfl, q _ _ (Same.refl _) (.int _)⟩
    | _ => cases hg
  | _ => cases hg
/-! the tests stop at once where the number is not known: no counting down from a great bound -/
instance {i j : Int} : Decidable (CMul i j) := decidable_of_iff ((Nat.ble i.natAbs 18446744073709551615 || Nat.ble j.natAbs 18446744073709551615) = true) (by unfold CMul; rw [Bool.or_eq_true, Nat.ble_eq, Nat.ble_eq]; omega)
instance {i j : Int} : Decidable (CDiv i j) := decidable_of_iff ((decide (0 < j) && Nat.ble j.natAbs 1073741823) = true) (by unfold CDiv; rw [Bool.and_eq_true, Nat.ble_eq, decide_eq_true_eq]; omega)
instance {i j : Int} : Decidable (CPow i j) := decidable_of_iff ((decide (0 ≤ j) && (Nat.ble j.natAbs 1000000 && Nat.ble i.natAbs 18446744073709551615)) = true) (by unfold CPow; rw [Bool.and_eq_true, Bool.and_eq_true, Nat.ble_eq, Nat.ble_eq, decide_eq_true_eq]; omega)
def smallI (j : Int) : Bool := Nat.ble j.natAbs 999999
theorem smallI_iff {j : Int} : smallI j = true ↔ j < 1000000 ∧ -1000000 < j := by
  unfold smallI
  rw [Nat.ble_eq]
  omega
def divD : PyData → PyData → Option PyData
  | .int i, .int j => if CDiv i j then some (.int (i / j)) else none
  | _, _ => none
theorem od_div : OpR X (binaryOp .FloorDiv) (rD K divD) := by
  intro pins s σ H x y v u Q I rx ry ⟨G, d, e, z, g, hx, hy, hg, q⟩
  cases hx with
  | int i =>
    cases hy with
    | int j =>
      obtain ⟨hc, rfl⟩ := ite_some hg
      exact op_fdiv pins s σ H _ _ v u Q I rx ry ⟨i, j, rfl, rfl, hc, q _ _ (Same.refl _) (.int _)⟩
    | _ => cases hg
  | _ => cases hg
def modD : PyData → PyData → Option PyData
  | .int i, .int j => if 0 < j then some (.int (i % j)) else none
  | _, _ => none
theorem od_mod : OpR X (binaryOp .Mod) (rD K modD) := by
  intro pins s σ H x y v u Q I rx ry ⟨G, d, e, z, g, hx, hy, hg, q⟩
  cases hx with
  | int i =>
    cases hy with
    | int j =>
      obtain ⟨hc, rfl⟩ := ite_some hg
      exact op_mod pins s σ H _ _ v u Q I rx ry ⟨i, j, rfl, rfl, hc, q _ _ (Same.refl _) (.int _)⟩
    | _ => cases hg
  | _ => cases hg
def powD : PyData → PyData → Option PyData
  | .int i, .int j => if CPow i j then some (.int (i ^ j.toNat)) else none
  | _, _ => none
theorem od_pow : OpR X (binaryOp .Pow) (rD K powD) := by
  intro pins s σ H x y v u Q I rx ry ⟨G, d, e, z, g, hx, hy, hg, q⟩
  cases hx with
  | int i =>
    cases hy with
    | int j =>
      obtain ⟨hc, rfl⟩ := ite_some hg
      exact op_pow pins s σ H _ _ v u Q I rx ry ⟨i, j, rfl, rfl, hc, q _ _ (Same.refl _) (.int _)⟩
    | _ => cases hg
  | _ => cases hg
def negD : PyData → Option PyData
  | .int i => some (.int (-i))
  | _ => none
theorem od_neg : UnR X (unaryOp .USub) (rD1 K negD) := by
  intro pins s σ H x v Q I rx ⟨G, d, z, g, hx, hg, q⟩
  cases hx with
  | int i =>
    cases hg
    exact un_neg pins s σ H _ v Q I rx ⟨i, rfl, q _ _ (Same.refl _) (.int _)⟩
  | _ => cases hg

/-! ### times -/
theorem list_mulW (l : Addr) (items : Array Value) (n : Nat) (dd : Option Addr) (sl : Array (Option Value)) (x : Int) (u : Tok) (hc0 : (!Builtin.List.listFitsIndex x) = false) (hc1 : ¬items.size * x.toNat > (2 ^ 63 - 1) / 8) (hc2 : ¬Builtin.List.listTooLong (items.size * x.toNat) = true) (hsz : (List.foldl (fun x1 x2 => x1 ++ x2) #[] (List.replicate (if items.isEmpty = true then 0 else x.toNat) items)).size ≤ sizeLine) :
    Meets (Builtin.«list.__mul__» ⟨[.ref l, .int x u], []⟩) (fun _ R s => s.heap.get? l = some { cls := .type "list", dict := dd, data := .seq items n, slots := sl } ∧
      R (.ok (.ret (Value.ref s.heap.objs.size))) { s with heap := s.heap.push { cls := Value.type "list", data := Data.seq (List.foldl (fun x1 x2 => x1 ++ x2) #[] (List.replicate (if items.isEmpty = true then 0 else x.toNat) items)) }, toks := s.toks }) :=
  .of_wp fun prog w A R s h => by
    obtain ⟨hp, g, d, tk, os⟩ := s
    obtain ⟨hl, h⟩ := h
    have f1 := AutoSeq1.idx_int
    wp_walk using wpAny_loadPart' hl
    repeat (first
      | (refine wpAny_ite_false (decide_eq_false (by rw [hc0]; exact Bool.false_ne_true)) ?_; wp_walk using wpAny_loadPart' hl)
      | (refine wpAny_ite_false (decide_eq_false hc1) ?_; wp_walk using wpAny_loadPart' hl)
      | (refine wpAny_ite_false (decide_eq_false hc2) ?_; wp_walk using wpAny_loadPart' hl)
      | (refine wpAny_ite_false (decide_eq_false (Nat.not_lt.mpr hsz)) ?_; wp_walk using wpAny_loadPart' hl))
    exact ⟨_, rfl, h⟩
theorem tuple_mul1 (l : Addr) (items : Array Value) (n : Nat) (dd : Option Addr) (sl : Array (Option Value)) (x : Int) (u : Tok) (c0 : (decide (x < -(2 ^ 63)) || decide (x ≥ 2 ^ 63)) = false) (c1 : (items.isEmpty || x == 1) = true) :
    Meets (Builtin.«tuple.__mul__» ⟨[.ref l, .int x u], []⟩) (fun _ R s => s.heap.get? l = some { cls := .type "tuple", dict := dd, data := .seq items n, slots := sl } ∧
      R (.ok (.ret (Value.ref l))) s) :=
  .of_wp fun prog w A R s h => by
    obtain ⟨hp, g, d, tk, os⟩ := s
    obtain ⟨hl, h⟩ := h
    have f1 := AutoSeq1.idx_int
    wp_walk using wpAny_loadPart' hl
    repeat (first
      | (refine wpAny_ite_false (decide_eq_false (by rw [c0]; exact Bool.false_ne_true)) ?_; wp_walk using wpAny_loadPart' hl)
      | (refine wpAny_ite_true (decide_eq_true c1) ?_; wp_walk using wpAny_loadPart' hl))
    exact ⟨_, rfl, h⟩

theorem rep_flat_len {α : Type} (k : Nat) (xs : List α) : (List.replicate k xs).flatten.length = k * xs.length := PyProof.Rows.lm_len_rep_flat ..
theorem op_repS : OpR X (binaryOp .Mult) (fun x y H Q => ∃ l k xs, x = .ref l ∧ y = .int k ∧ SqL X.K H l xs ∧ -(2 ^ 63) ≤ k ∧ k < 2 ^ 63 ∧ xs.length * k.toNat ≤ lim ∧ ∀ p, H p = none → Q (.ref p) (upd H p (.lst (List.replicate k.toNat xs).flatten))) := by
  intro pins s σ H x y v u Q I rx ry h
  obtain ⟨l, k, xs, rfl, rfl, hH, h1, h2, hz0, q⟩ := h
  have hz : xs.length * k.toNat ≤ sizeLine := lim_sz hz0
  cases rx
  obtain ⟨t, rfl⟩ := ry
  obtain ⟨its, r, ⟨⟨cls, dd, data, sl⟩, n, ho, hc, hdn, hdt⟩, hl⟩ := I.list hH
  simp only at hc hdt
  subst hc hdt
  have hlen : its.toArray.size * k.toNat ≤ sizeLine := by rw [List.size_toArray, ← r.length]; exact hz
  have hcap : ¬ its.toArray.size * k.toNat > (2 ^ 63 - 1) / 8 := by
    have : (sizeLine : Nat) ≤ (2 ^ 63 - 1) / 8 := by decide
    omega
  have hfit : (!Builtin.List.listFitsIndex k) = false := by rw [fitsIndex_both h1 h2]; rfl
  have hlong : ¬ Builtin.List.listTooLong (its.toArray.size * k.toNat) = true := by
    rw [notLongL hlen]
    exact Bool.false_ne_true
  have hnew : List.foldl (fun x1 x2 => x1 ++ x2) #[] (List.replicate (if its.toArray.isEmpty = true then 0 else k.toNat) its.toArray) = (List.replicate k.toNat its).flatten.toArray := by
    rw [size_rep]
    cases its with
    | nil => simp
    | cons a r' => rw [if_neg (by simp)]
  have rl : (List.replicate k.toNat its).flatten.length ≤ sizeLine := by
    rw [rep_flat_len, ← r.length, Nat.mul_comm]
    exact hz
  have noI : Meets (Builtin.«int.__rmul__» ⟨[.int k t, .ref l], []⟩) (fun _ R s => s.heap.get? l = some { cls := .type "list", dict := dd, data := .seq its.toArray n, slots := sl } ∧ R (.ok (.ret Value.notImplemented)) s) :=
    .of_wp fun prog w A R s h => by obtain ⟨hp, g, d, tk, os⟩ := s; obtain ⟨hl, h⟩ := h; wp_walk using wpAny_loadPart' hl; exact ⟨_, rfl, h⟩
  refine PySem.wpAny_binaryOp_repeat_ref (T := "list") (U := "int") (by decide) ⟨_, ho, rfl⟩ (fun s' => typeIs_int s' k t) noFill_list_mul PySem.F.fills_int_mul PySem.F.slot_int_rmul repeat_list PySem.F.slot_int_index.lookup
    (PySem.call_meets PySem.F.slot_int_rmul (typeIs_int s k t) PySem.F.entry_int_rmul (PySem.F.args_int_rmul_2 _ _) noI
      ⟨ho, rfl, ⟨_, ho, rfl⟩, PySem.call_meets PySem.F.slot_list_mul ⟨_, ho, rfl⟩ PySem.F.entry_list_mul (PySem.F.args_list_mul_2 _ _) (list_mulW l its.toArray n dd sl k t hfit hcap hlong (by rw [hnew, List.size_toArray]; exact rl)) ⟨ho, ?_⟩⟩)
  rw [hnew]
  exact ⟨.ref _, _, I.lnew (t' := s.toks) (r.rep k.toNat) (by rw [rep_flat_len, Nat.mul_comm]; exact hz), rfl, q _ I.fresh⟩
/-- the tuple itself -/
theorem op_rep1 : OpR X (binaryOp .Mult) (fun x y H Q => ∃ l k xs, x = .ref l ∧ y = .int k ∧ SqT X.K H l xs ∧ (xs = [] ∨ k = 1) ∧ 0 ≤ k ∧ k ≤ 1000 ∧ Q (.ref l) H) := by
  intro pins s σ H x y v u Q I rx ry h
  obtain ⟨l, k, xs, rfl, rfl, hT, hk, h0, h1, q⟩ := h
  cases rx
  obtain ⟨t, rfl⟩ := ry
  obtain ⟨its, r, ⟨⟨cls, dd, data, sl⟩, ho, hc, n, hd⟩, hs⟩ := I.tuple hT
  simp only at hc hd
  subst hc hd
  have c0 : (decide (k < -(2 ^ 63)) || decide (k ≥ 2 ^ 63)) = false := by
    rw [decide_eq_false (by omega), decide_eq_false (by omega)] <;> rfl
  have c1 : (its.toArray.isEmpty || k == 1) = true := by
    rcases hk with e | e
    · subst e
      cases r
      rfl
    · subst e
      rw [Bool.or_eq_true]
      exact .inr rfl
  refine PySem.wpAny_binaryOp_repeat_ref (T := "tuple") (U := "int") (by decide) ⟨_, ho, rfl⟩ (fun s' => typeIs_int s' k t) noFill_tuple_mul PySem.F.fills_int_mul PySem.F.slot_int_rmul repeat_tuple PySem.F.slot_int_index.lookup
    (PySem.call_meets PySem.F.slot_int_rmul (typeIs_int s k t) PySem.F.entry_int_rmul (PySem.F.args_int_rmul_2 _ _) (int_rmul_tuple k t l its.toArray n dd sl)
      ⟨ho, rfl, ⟨_, ho, rfl⟩, PySem.call_meets PySem.F.slot_tuple_mul ⟨_, ho, rfl⟩ PySem.F.entry_tuple_mul (PySem.F.args_tuple_mul_2 _ _) (tuple_mul1 l its.toArray n dd sl k t c0 c1) ⟨ho, ?_⟩⟩)
  exact ⟨.ref l, _, I, rfl, q⟩
theorem op_repF : OpR X (binaryOp .Mult) (fun x y H Q => ∃ l k xs, x = .ref l ∧ y = .int k ∧ SqT X.K H l xs ∧ xs ≠ [] ∧ 2 ≤ k ∧ k ≤ 1000 ∧ xs.length ≤ 1000 ∧ ∀ p o, H p = none → o.dict = none → Q (.ref p) (upd H p (.frz o (.tup (List.replicate k.toNat xs).flatten)))) := by
  intro pins s σ H x y v u Q I rx ry h
  obtain ⟨l, k, xs, rfl, rfl, hT, hne, h1, h2, hz, q⟩ := h
  cases rx
  obtain ⟨t, rfl⟩ := ry
  obtain ⟨its, r, ⟨⟨cls, dd, data, sl⟩, ho, hc, n, hd⟩, hs⟩ := I.tuple hT
  simp only at hc hd
  subst hc hd
  have hle : its.length = xs.length := r.length.symm
  have hn : its ≠ [] := fun e => hne (by
    rw [e] at hle
    exact List.eq_nil_of_length_eq_zero hle.symm)
  have hi : its.toArray.isEmpty = false := by
    cases its with
    | nil => exact absurd rfl hn
    | cons a b => rfl
  have hsz0 : its.toArray.size = xs.length := by rw [List.size_toArray, hle]
  have hm : ((its.toArray.size : Nat) : Int) * k ≤ 1000000 := by
    rw [hsz0]
    have a1 : ((xs.length : Nat) : Int) * k ≤ 1000 * k := Int.mul_le_mul_of_nonneg_right (by omega) (by omega)
    omega
  have flen : (List.replicate k.toNat its).flatten.length ≤ sizeLine := by
    rw [PyProof.Rows.lm_len_rep_flat, hle, sizeLine_eq]
    have a1 : k.toNat * xs.length ≤ 1000 * 1000 := Nat.mul_le_mul (by omega) hz
    omega
  have c0 : (decide (k < -(2 ^ 63)) || decide (k ≥ 2 ^ 63)) = false := by
    rw [decide_eq_false (by omega), decide_eq_false (by omega)] <;> rfl
  have c1 : (its.toArray.isEmpty || k == 1) = false := by
    rw [hi, Bool.false_or]
    exact beq_eq_false_iff_ne.mpr (by omega)
  have c2 : (decide (k ≤ 0) || its.toArray.isEmpty) = false := by
    rw [hi, Bool.or_false]
    exact decide_eq_false (by omega)
  have c4 : Builtin.Tuple.tupleTooMany (((its.toArray.size : Nat) : Int) * k) = false := by
    unfold Builtin.Tuple.tupleTooMany
    rw [sizeLine_eq]
    exact decide_eq_false (by omega)
  refine PySem.wpAny_binaryOp_repeat_ref (T := "tuple") (U := "int") (by decide) ⟨_, ho, rfl⟩ (fun s' => typeIs_int s' k t) noFill_tuple_mul PySem.F.fills_int_mul PySem.F.slot_int_rmul repeat_tuple PySem.F.slot_int_index.lookup
    (PySem.call_meets PySem.F.slot_int_rmul (typeIs_int s k t) PySem.F.entry_int_rmul (PySem.F.args_int_rmul_2 _ _) (int_rmul_tuple k t l its.toArray n dd sl)
      ⟨ho, rfl, ⟨_, ho, rfl⟩, PySem.call_meets PySem.F.slot_tuple_mul ⟨_, ho, rfl⟩ PySem.F.entry_tuple_mul (PySem.F.args_tuple_mul_2 _ _) (tuple_mulW l its.toArray n dd sl k t c0 c1 c2 (by omega) c4 (by rw [size_rep, List.size_toArray]; exact flen)) ⟨ho, ?_⟩⟩)
  rw [size_rep]
  refine ⟨.ref s.heap.objs.size, _, I.laid (t' := s.toks) (o := .frz { cls := .type "tuple", data := .seq (List.replicate k.toNat its).flatten.toArray } (.tup (List.replicate k.toNat xs).flatten)) (fun b ob q => Heap.get?_push_of_some _ q) (Nat.le_refl _) ?_, rfl, q _ _ (I.hok.fresh (Nat.le_refl _)) rfl⟩
  exact ⟨Heap.get?_push_size _ rfl, by rw [PyProof.Rows.lm_len_rep_flat, sizeLine_eq]; have a1 : k.toNat * xs.length ≤ 1000 * 1000 := Nat.mul_le_mul (by omega) hz; omega, _, r.rep k.toNat, IsTup.new _ _⟩
def mulD : PyData → PyData → Option PyData
  | .int i, .int j => if CMul i j then some (.int (i * j)) else none
  | .list a, .int k => if 0 ≤ k ∧ k ≤ 1000 ∧ a.length ≤ 1000 then some (.list (List.replicate k.toNat a).flatten) else none
  | .tuple a, .int k => if 1 ≤ k ∧ k ≤ 1000 ∧ a.length ≤ 1000 then some (.tuple (List.replicate k.toNat a).flatten) else none
  | _, _ => none
theorem rep_nil {α : Type} : ∀ k : Nat, (List.replicate k ([] : List α)).flatten = []
  | 0 => rfl
  | k + 1 => by
    rw [List.replicate_succ, List.flatten_cons, rep_nil k, List.nil_append]
theorem rep_one {α : Type} (a : List α) : (List.replicate (1 : Int).toNat a).flatten = a := List.append_nil a
theorem od_mul (hK : X.K = K) : OpR X (binaryOp .Mult) (rD K mulD) := by
  subst hK
  intro pins s σ H x y v u Q I rx ry ⟨G, d, e, z, g, hx, hy, hg, q⟩
  cases hx with
  | int i =>
    cases hy with
    | int j =>
      obtain ⟨hl, rfl⟩ := ite_some hg
      exact op_mul pins s σ H _ _ v u Q I rx ry ⟨i, j, rfl, rfl, hl, q _ _ (Same.refl _) (.int _)⟩
    | _ => cases hg
  | lst h1 h2 =>
    cases hy with
    | int k =>
      obtain ⟨⟨k0, k1, k2⟩, rfl⟩ := ite_some hg
      refine op_repS pins s σ H _ _ v u Q I rx ry ⟨_, k, _, rfl, rfl, same_l g h1, by omega, by omega, ?_, fun p hp => ?_⟩
      · rw [h2.len]
        have : k.toNat ≤ 1000 := by omega
        exact Nat.le_trans (Nat.mul_le_mul k2 this) (by decide)
      · exact q _ _ (same_new hp) (.lst (SqL.of (grow_at g hp)) ((h2.rep _).mono grow_same))
    | _ => cases hg
  | tup h1 h2 =>
    cases hy with
    | int k =>
      obtain ⟨⟨k0, k1, k2⟩, rfl⟩ := ite_some hg
      by_cases e1 : k = 1
      · subst e1
        rw [rep_one] at q
        exact op_rep1 pins s σ H _ _ v u Q I rx ry ⟨_, 1, _, rfl, rfl, h1.sqT g, .inr rfl, by omega, by omega, q _ _ (Same.refl _) (.tup (h1.mono grow_same) (h2.mono grow_same))⟩
      · cases h2 with
        | nil =>
          rw [rep_nil] at q
          exact op_rep1 pins s σ H _ _ v u Q I rx ry ⟨_, k, _, rfl, rfl, h1.sqT g, .inl rfl, by omega, by omega, q _ _ (Same.refl _) (.tup (h1.mono grow_same) .nil)⟩
        | cons r t =>
          refine op_repF pins s σ H _ _ v u Q I rx ry ⟨_, k, _, rfl, rfl, h1.sqT g, (fun z => nomatch z), by omega, by omega, ?_, fun p o hp ho => ?_⟩
          · rw [(DrL.cons r t).len]
            exact k2
          · exact q _ _ (same_new hp) (.tup ⟨o, grow_at g hp, ho⟩ (((DrL.cons r t).rep _).mono grow_same))
    | _ => cases hg
  | _ => cases hg

/-! ### comparisons -/
abbrev shp (d : PyData) : Bool := SeqAt.shaped d
def eqB (d e : PyData) : Option Bool := if shp d = true ∧ shp e = true then some (PyData.eqv d e) else none
def neB (d e : PyData) : Option Bool := if shp d = true ∧ shp e = true then some (!PyData.eqv d e) else none
theorem od_eq (hK : X.K = K) (hu : X.A.units + 64 < cLine) : OpR X (compareOp .Eq) (rDb K eqB) := by
  subst hK
  intro pins s σ H x y v u Q I rx ry ⟨G, d, e, z, g, hx, hy, hg, q⟩
  obtain ⟨⟨s1, s2⟩, rfl⟩ := ite_some hg
  exact op_eqD hu pins s σ H _ _ v u Q I rx ry ⟨d, e, (hx.mono g).dp (SeqAt.canLay_of_shaped s1), (hy.mono g).dp (SeqAt.canLay_of_shaped s2), s1, s2, q⟩
theorem od_ne (hK : X.K = K) (hu : X.A.units + 64 < cLine) : OpR X (compareOp .NotEq) (rDb K neB) := by
  subst hK
  intro pins s σ H x y v u Q I rx ry ⟨G, d, e, z, g, hx, hy, hg, q⟩
  obtain ⟨⟨s1, s2⟩, rfl⟩ := ite_some hg
  exact op_neD hu pins s σ H _ _ v u Q I rx ry ⟨d, e, (hx.mono g).dp (SeqAt.canLay_of_shaped s1), (hy.mono g).dp (SeqAt.canLay_of_shaped s2), s1, s2, q⟩
def ltB (d e : PyData) : Option Bool := if shp d = true ∧ shp e = true ∧ PySem.W.alike d e = true ∧ isNon d = false then some (PySem.W.dataLt d e) else none
theorem shp_depth {d : PyData} (h : shp d = true) : d.depth ≤ 64 := of_decide_eq_true (Bool.and_eq_true_iff.mp h).2
theorem od_lt (hK : X.K = K) (hu : X.A.units + 64 < cLine) : OpR X (compareOp .Lt) (rDb K ltB) := by
  subst hK
  intro pins s σ H x y v u Q I rx ry ⟨G, d, e, z, g, hx, hy, hg, q⟩
  obtain ⟨⟨s1, s2, al, nn⟩, rfl⟩ := ite_some hg
  obtain ⟨as, r1⟩ := Dp.reads I d x v ((hx.mono g).dp (SeqAt.canLay_of_shaped s1)) rx
  obtain ⟨bs, r2⟩ := Dp.reads I e y u ((hy.mono g).dp (SeqAt.canLay_of_shaped s2)) ry
  have dp := shp_depth s1
  have z := PySem.W.rcLt_alike d e X.A s v u as bs r1 r2 al (fun z => by subst z; cases nn) (by omega) X.prog X.w X.xe (EP X pins σ Q) ⟨.bl _, H, I, rfl, q⟩
  exact z
def cmpI (p : Int → Int → Bool) : PyData → PyData → Option Bool
  | .int i, .int j => some (p i j)
  | _, _ => none
theorem od_cmpI {op : CmpOp} {p : Int → Int → Bool} (rule : ∀ (i j : Int) (t u : Tok) (s : Shared) (Q : Value → Shared → Prop) (E : Value → Shared → Prop), Q (.bool (p i j)) s → wpAny (model X.prog X.w) X.A (compareOp op (.int i t) (.int j u)) Q E s) : OpR X (compareOp op) (rDb K (cmpI p)) := by
  intro pins s σ H x y v u Q I rx ry ⟨G, d, e, z, g, hx, hy, hg, q⟩
  cases hx with
  | int i =>
    cases hy with
    | int j =>
      cases hg
      obtain ⟨t, rfl⟩ := rx
      obtain ⟨t', rfl⟩ := ry
      exact rule i j t t' s _ _ ⟨.bl _, H, I, rfl, q⟩
    | _ => cases hg
  | _ => cases hg
abbrev ltI : PyData → PyData → Option Bool := cmpI fun i j => decide (i < j)
abbrev leI : PyData → PyData → Option Bool := cmpI fun i j => decide (i ≤ j)
abbrev gtI : PyData → PyData → Option Bool := cmpI fun i j => decide (j < i)
abbrev geI : PyData → PyData → Option Bool := cmpI fun i j => decide (j ≤ i)
theorem od_ltI : OpR X (compareOp .Lt) (rDb K ltI) := od_cmpI fun _ _ _ _ _ _ _ h => lt_int h
theorem od_leI : OpR X (compareOp .LtE) (rDb K leI) := od_cmpI fun _ _ _ _ _ _ _ h => le_int h
theorem od_gtI : OpR X (compareOp .Gt) (rDb K gtI) := od_cmpI fun _ _ _ _ _ _ _ h => gt_int h
theorem od_geI : OpR X (compareOp .GtE) (rDb K geI) := od_cmpI fun _ _ _ _ _ _ _ h => ge_int h

/-! ### dicts looked up -/
def keyOf : PyData → Option Key
  | .int i => some (.inl i)
  | .str s => some (.inr s)
  | _ => none
def keysOf : List PyData → Option (List Key)
  | [] => some []
  | d :: ds => match keyOf d, keysOf ds with
    | some k, some ks => some (k :: ks)
    | _, _ => none
/-- a key that a dict may have here: an int, a text, a tuple of these -/
def keyAny : PyData → Bool
  | .tuple ds => (keysOf ds).isSome
  | d => (keyOf d).isSome
def lookD (kvs : List (PyData × PyData)) (k : PyData) : Option PyData := (kvs.find? fun p => PyData.eqv p.1 k).map (·.2)
theorem keyOf_some {d : PyData} {k : Key} (h : keyOf d = some k) : d = keyD k := by
  cases d <;> cases h <;> rfl
theorem keysOf_some : ∀ {ds : List PyData} {ks : List Key}, keysOf ds = some ks → ds = ks.map keyD
  | [], ks, h => by cases h; rfl
  | d :: ds, ks, h => by
    unfold keysOf at h
    cases e1 : keyOf d with
    | none => rw [e1] at h; cases h
    | some k =>
      cases e2 : keysOf ds with
      | none => rw [e1, e2] at h; cases h
      | some ks' =>
        rw [e1, e2] at h
        cases h
        rw [List.map_cons, ← keyOf_some e1, ← keysOf_some e2]
theorem eqv_key (a b : Key) : PyData.eqv (keyD a) (keyD b) = decide (a = b) := by
  cases a with
  | inl i =>
    cases b with
    | inl j =>
      rw [key_ll]
      simp [keyD, PyData.eqv]
    | inr y =>
      rw [key_lr]
      simp [keyD, PyData.eqv]
  | inr x =>
    cases b with
    | inl j =>
      rw [key_rl]
      simp [keyD, PyData.eqv]
    | inr y =>
      rw [key_rr]
      simp only [keyD, PyData.eqv]
      by_cases e : x = y
      · subst e
        rw [decide_eq_true rfl]
        exact beq_self_eq_true _
      · rw [decide_eq_false e]
        exact beq_eq_false_iff_ne.mpr e
theorem look_k {G : Hp} (k : Key) : ∀ {kv : List (Key × V)} {kvs : List (PyData × PyData)}, DrK K G kv kvs → (∀ d, lookD kvs (keyD k) = some d → ∃ v, valV kv k = some v ∧ Dr K G v d) ∧ (valV kv k).isSome = (lookD kvs (keyD k)).isSome
  | _, _, .nil => ⟨fun d h => (Option.some_ne_none d (Eq.symm h)).elim, rfl⟩
  | (k1, v1) :: r, _, .cons (d := d1) (rs := rs) h t => by
    obtain ⟨ih1, ih2⟩ := look_k k t
    by_cases e : k1 = k
    · subst e
      have e1 : lookD ((keyD k1, d1) :: rs) (keyD k1) = some d1 := by
        unfold lookD
        rw [List.find?_cons_of_pos (by show PyData.eqv (keyD k1) (keyD k1) = true; rw [eqv_key, decide_eq_true rfl])]
        rfl
      rw [e1, valV_pos rfl]
      exact ⟨fun d hd => ⟨v1, rfl, by cases hd; exact h⟩, rfl⟩
    · have e1 : lookD ((keyD k1, d1) :: rs) (keyD k) = lookD rs (keyD k) := by
        unfold lookD
        rw [List.find?_cons_of_neg (by show ¬ PyData.eqv (keyD k1) (keyD k) = true; rw [eqv_key, decide_eq_false e]; exact Bool.false_ne_true)]
      rw [e1, valV_neg e]
      exact ⟨ih1, ih2⟩
theorem dr_keys {G : Hp} : ∀ {ks : List Key} {vs : List V}, DrL K G vs (ks.map keyD) → vs = ks.map kV
  | [], _, .nil => rfl
  | .inl i :: ks, _, .cons h t => by
    have h : Dr K G _ (.int i) := h
    cases h
    rw [dr_keys t]
    rfl
  | .inr x :: ks, _, .cons h t => by
    have h : Dr K G _ (.str x) := h
    cases h
    rw [dr_keys t]
    rfl
theorem dr_key {G : Hp} {k : Key} {v : V} (h : Dr K G v (keyD k)) : v = kV k := by
  cases k with
  | inl i => cases h; rfl
  | inr x => cases h; rfl
/-- a dict as it lies, owned or locked -/
def DictRd (K : PySem.W.Frag) (G H : Hp) (a : Addr) (kvs : List (PyData × PyData)) : Prop := ∃ kv, Rd H a (.dK kv) ∧ DrK K G kv kvs
theorem dr_dict {G H : Hp} {v : V} {kvs : List (PyData × PyData)} (g : Same G H) (h : Dr K G v (.dict kvs)) : ∃ a, v = .ref a ∧ DictRd K G H a kvs := by
  cases h with
  | dK h1 h2 => exact ⟨_, rfl, _, .inr ⟨_, g _ _ h1⟩, h2⟩

/-! ### in -/
def inB (x : PyData) : PyData → Option Bool
  | .list ds => if shp x = true ∧ shp (.list ds) = true then some (ds.any fun z => PyData.eqv z x) else none
  | .tuple ds => if shp x = true ∧ shp (.tuple ds) = true then some (ds.any fun z => PyData.eqv z x) else none
  | .dict kvs => if (keyOf x).isSome = true then some (lookD kvs x).isSome else none
  | .str z => match x with
    | .str y => match y.cps.toList with
      | [c] => some (decide (c ∈ z.cps.toList))
      | _ => none
    | _ => none
  | _ => none
def ninB (x y : PyData) : Option Bool := (inB x y).map (!·)
theorem str_one {y : Str} {c : Nat} (h : y.cps.toList = [c]) : y = ⟨#[c]⟩ := by
  have hc : y.cps = #[c] := by rw [← Array.toArray_toList (xs := y.cps), h]
  cases y
  simp only [Str.mk.injEq]
  exact hc
theorem dt_get {G H : Hp} {a : Addr} {kvs : List (PyData × PyData)} {x : V} {d : PyData} {k : Key} (h : DictRd K G H a kvs) (hx : Dr K G x d) (hk : keyOf d = some k) :
    ∃ o, DGet H a x o ∧ x = kV k ∧ (∀ z, lookD kvs d = some z → ∃ v, o = some v ∧ Dr K G v z) ∧ o.isSome = (lookD kvs d).isSome := by
  obtain ⟨kv, rd, r⟩ := h
  have ed := keyOf_some hk
  subst ed
  have ex := dr_key hx
  subst ex
  obtain ⟨h1, h2⟩ := look_k k r
  exact ⟨valV kv k, .inl ⟨kv, k, rd, rfl, rfl⟩, rfl, h1, h2⟩
theorem od_in (hK : X.K = K) (hu : X.A.units + 64 < cLine) : OpR X (compareOp .In) (rDb K inB) := by
  subst hK
  intro pins s σ H x y v u Q I rx ry ⟨G, d, e, z, g, hx, hy, hg, q⟩
  have room : ∀ ds : List PyData, PyData.depthAll ds + 1 ≤ 64 → X.A.units + 1 + min (PyData.depthAll ds) d.depth < cLine := fun ds h => by
    have : min (PyData.depthAll ds) d.depth ≤ PyData.depthAll ds := Nat.min_le_left _ _
    omega
  cases e with
  | list ds =>
    obtain ⟨⟨s1, s2⟩, rfl⟩ := ite_some hg
    obtain ⟨as, r1⟩ := Dp.reads I d x v ((hx.mono g).dp (SeqAt.canLay_of_shaped s1)) rx
    obtain ⟨bs, r2⟩ := Dp.reads I _ y u ((hy.mono g).dp (SeqAt.canLay_of_shaped s2)) ry
    have dp := shp_depth s2
    exact SeqAt.in_list_reads r2 r1 (by simpa [PyData.canLay0] using SeqAt.canLay_of_shaped s2) (SeqAt.canLay_of_shaped s1) (room ds dp) ⟨.bl _, H, I, rfl, q⟩
  | tuple ds =>
    obtain ⟨⟨s1, s2⟩, rfl⟩ := ite_some hg
    obtain ⟨as, r1⟩ := Dp.reads I d x v ((hx.mono g).dp (SeqAt.canLay_of_shaped s1)) rx
    obtain ⟨bs, r2⟩ := Dp.reads I _ y u ((hy.mono g).dp (SeqAt.canLay_of_shaped s2)) ry
    have dp := shp_depth s2
    exact SeqAt.in_tuple_reads r2 r1 (by simpa [PyData.canLay0] using SeqAt.canLay_of_shaped s2) (SeqAt.canLay_of_shaped s1) (room ds dp) ⟨.bl _, H, I, rfl, q⟩
  | dict kvs =>
    obtain ⟨hk, rfl⟩ := ite_some hg
    obtain ⟨k, hk⟩ := Option.isSome_iff_exists.mp hk
    obtain ⟨a, rfl, hd⟩ := dr_dict g hy
    obtain rfl : u = Value.ref a := ry
    obtain ⟨o, gt, ex, _, h2⟩ := dt_get hd hx hk
    exact d_in (by omega) I gt rx fun s3 I3 => ⟨.bl o.isSome, H, I3, rfl, by rw [h2]; exact q⟩
  | str zz =>
    cases hx with
    | str yy =>
      have hg' : (match yy.cps.toList with | [c] => some (decide (c ∈ zz.cps.toList)) | _ => none) = some z := hg
      cases ec : yy.cps.toList with
      | nil => rw [ec] at hg'; cases hg'
      | cons c r =>
        cases r with
        | nil =>
          rw [ec] at hg'
          cases hg'
          cases hy
          have ey := str_one ec
          subst ey
          exact op_in_sign pins s σ H _ _ v u Q I rx ry ⟨c, zz, rfl, rfl, q⟩
        | cons c2 r2 => rw [ec] at hg'; cases hg'
    | _ => cases hg
  | _ => cases hg
theorem od_nin (hK : X.K = K) (hu : X.A.units + 64 < cLine) : OpR X (compareOp .NotIn) (rDb K ninB) := by
  subst hK
  intro pins s σ H x y v u Q I rx ry ⟨G, d, e, z', g, hx, hy, hg', q⟩
  obtain ⟨z, hg, rfl⟩ := Option.map_eq_some_iff.mp hg'
  have room : ∀ ds : List PyData, PyData.depthAll ds + 1 ≤ 64 → X.A.units + 1 + min (PyData.depthAll ds) d.depth < cLine := fun ds h => by
    have : min (PyData.depthAll ds) d.depth ≤ PyData.depthAll ds := Nat.min_le_left _ _
    omega
  cases e with
  | list ds =>
    obtain ⟨⟨s1, s2⟩, rfl⟩ := ite_some hg
    obtain ⟨as, r1⟩ := Dp.reads I d x v ((hx.mono g).dp (SeqAt.canLay_of_shaped s1)) rx
    obtain ⟨bs, r2⟩ := Dp.reads I _ y u ((hy.mono g).dp (SeqAt.canLay_of_shaped s2)) ry
    have dp := shp_depth s2
    exact SeqAt.notIn_list_reads r2 r1 (by simpa [PyData.canLay0] using SeqAt.canLay_of_shaped s2) (SeqAt.canLay_of_shaped s1) (room ds dp) ⟨.bl _, H, I, rfl, q⟩
  | tuple ds =>
    obtain ⟨⟨s1, s2⟩, rfl⟩ := ite_some hg
    obtain ⟨as, r1⟩ := Dp.reads I d x v ((hx.mono g).dp (SeqAt.canLay_of_shaped s1)) rx
    obtain ⟨bs, r2⟩ := Dp.reads I _ y u ((hy.mono g).dp (SeqAt.canLay_of_shaped s2)) ry
    have dp := shp_depth s2
    exact SeqAt.notIn_tuple_reads r2 r1 (by simpa [PyData.canLay0] using SeqAt.canLay_of_shaped s2) (SeqAt.canLay_of_shaped s1) (room ds dp) ⟨.bl _, H, I, rfl, q⟩
  | dict kvs =>
    obtain ⟨hk, rfl⟩ := ite_some hg
    obtain ⟨k, hk⟩ := Option.isSome_iff_exists.mp hk
    obtain ⟨a, rfl, hd⟩ := dr_dict g hy
    obtain rfl : u = Value.ref a := ry
    obtain ⟨o, gt, ex, _, h2⟩ := dt_get hd hx hk
    exact d_notIn (by omega) I gt rx fun s3 I3 => ⟨.bl (!o.isSome), H, I3, rfl, by rw [h2]; exact q⟩
  | str zz =>
    cases hx with
    | str yy =>
      have hg' : (match yy.cps.toList with | [c] => some (decide (c ∈ zz.cps.toList)) | _ => none) = some z := hg
      cases ec : yy.cps.toList with
      | nil => rw [ec] at hg'; cases hg'
      | cons c r =>
        cases r with
        | nil =>
          rw [ec] at hg'
          cases hg'
          cases hy
          have ey := str_one ec
          subst ey
          exact op_notIn_sign pins s σ H _ _ v u Q I rx ry ⟨c, zz, rfl, rfl, q⟩
        | cons c2 r2 => rw [ec] at hg'; cases hg'
    | _ => cases hg
  | _ => cases hg

/-! ### subscripts -/
def ixD : PyData → PyData → Option PyData
  | .list ds, .int k => atI ds k
  | .tuple ds, .int k => atI ds k
  | .str z, .int k => if z.length ≤ lim then (atI z.cps.toList k).map fun c => .str ⟨#[c]⟩ else none
  | .dict kvs, k => if (keyOf k).isSome = true then lookD kvs k else none
  | _, _ => none
theorem atI_rel {G : Hp} {vs : List V} {ds : List PyData} (h : DrL K G vs ds) {i : Int} {d : PyData} (e : atI ds i = some d) : ∃ v, atI vs i = some v ∧ Dr K G v d := by
  unfold atI at e ⊢
  rw [h.len]
  cases q : ixN ds.length i with
  | none => rw [q] at e; cases e
  | some j =>
    rw [q] at e
    exact h.getD e
theorem od_ix (hK : X.K = K) (hu : X.A.units + 64 < cLine) : IxR X (rD K ixD) := by
  subst hK
  intro value slice pins s σ H x y v u Q I rx ry ⟨G, d, e, z, g, hx, hy, hg, q⟩ hs
  cases hx with
  | lst h1 h2 =>
    cases hy with
    | int i =>
      obtain ⟨w, e1, r1⟩ := atI_rel h2 hg
      exact ix_list value slice pins s σ H _ _ v u Q I rx ry ⟨_, _, i, w, rfl, rfl, same_l g h1, e1, q _ _ (Same.refl _) (r1.mono grow_same)⟩ hs
    | _ => cases hg
  | tup h1 h2 =>
    cases hy with
    | int i =>
      obtain ⟨w, e1, r1⟩ := atI_rel h2 hg
      exact ix_tup value slice pins s σ H _ _ v u Q I rx ry ⟨_, _, i, w, rfl, rfl, h1.sqT g, e1, q _ _ (Same.refl _) (r1.mono grow_same)⟩ hs
    | _ => cases hg
  | str zz =>
    cases hy with
    | int i =>
      have hg' : (if zz.length ≤ lim then (atI zz.cps.toList i).map fun c => PyData.str ⟨#[c]⟩ else none) = some z := hg
      by_cases hl : zz.length ≤ lim
      · rw [if_pos hl] at hg'
        obtain ⟨c, e1, rfl⟩ := Option.map_eq_some_iff.mp hg'
        exact ix_str value slice pins s σ H _ _ v u Q I rx ry ⟨zz, i, c, rfl, rfl, lim_sz hl, e1, q _ _ (Same.refl _) (.str _)⟩ hs
      · rw [if_neg hl] at hg'
        cases hg'
    | _ => cases hg
  | @dK _ _ _ kvs h1 h2 =>
    have hg' : (if (keyOf e).isSome = true then lookD kvs e else none) = some z := by
      cases e <;> exact hg
    by_cases hk : (keyOf e).isSome = true
    · rw [if_pos hk] at hg'
      obtain ⟨k, hk⟩ := Option.isSome_iff_exists.mp hk
      obtain ⟨o, gt, ex, h3, h4⟩ := dt_get (H := H) ⟨_, .inr ⟨_, g _ _ h1⟩, h2⟩ hy hk
      obtain ⟨w, rfl, r⟩ := h3 z hg'
      cases rx
      exact tail_any (dict_typeIs I gt) PySem.F.slot_dict_getitem.lookup (d_getItem (by omega) I gt ry fun w' s3 I3 rw' => ⟨w, H, I3, rw', q _ _ (Same.refl _) (r.mono grow_same)⟩) hs
    · rw [if_neg hk] at hg'
      cases hg'
  | _ => cases hg
end
end DL

/-! D3: subscripts, slices, own lists, calls of built-ins. -/
namespace DL
open PySem PySem.Spec PyProof.Rows L2
section
variable {X : Cx} {Z : Pm} {W : WX}

/-! ### subscripts -/
theorem de_ix {a b : Expr} {fa fb : Env → R PyData} {pos : Pos} (hK : X.K = Z.K) (hu : X.A.units + 64 < cLine) (ha : DE X Z W a fa) (hb : DE X Z W b fb) (hs : PlainIx b) : DE X Z W (.Subscript a b pos) (eOp ixD fa fb) := by
  refine PE_imp (pe_ix (od_ix hK hu) ha hb hs) fun σ H Q ⟨ρ, G, O, R, P⟩ => ?_
  refine t_bind R P fun d ρ1 v G1 O1 H1 e1 R1 S1 D1 P1 => ?_
  refine t_bind R1 P1 fun e ρ2 u G2 O2 H2 e2 R2 S2 D2 P2 => ?_
  cases hg : ixD d e with
  | none =>
    rw [hg] at P2
    exact P2.elim
  | some z =>
    rw [hg] at P2
    exact ⟨G2, d, e, z, R2.gh, D1.mono S2.gg, D2, hg, post_pure R2 P2⟩

/-! ### slices -/
abbrev TDo (Z : Pm) (W : WX) (f : Env → R (Option Int)) : TO := T_ Z W (fun _ _ _ (b : Option Int) c => b = c) f
abbrev DO_ (X : Cx) (Z : Pm) (W : WX) (e : Option Expr) (f : Env → R (Option Int)) : Prop := PO X e (TDo Z W f)
theorem PO_imp {e : Option Expr} {t t' : TO} (h : PO X e t) (i : ∀ σ H Q, t' σ H Q → t σ H Q) : PO X e t' := ⟨fun pins s σ H Q I q => h.run pins s σ H Q I (i σ H Q q)⟩
def oNone : Env → R (Option Int) := fun ρ => .ok none ρ
def oSome (f : Env → R PyData) : Env → R (Option Int) := fun ρ => (f ρ).bind fun d ρ1 => match d with
  | .int i => .ok (some i) ρ1
  | _ => .bad
theorem do_none : DO_ X Z W none oNone := PO_imp po_none fun σ H Q ⟨ρ, G, O, R, P⟩ => P none G O H R Step.refl rfl
theorem do_some {e : Expr} {f : Env → R PyData} (h : DE X Z W e f) : DO_ X Z W (some e) (oSome f) := by
  refine PO_imp (po_some h) fun σ H Q ⟨ρ, G, O, R, P⟩ => ?_
  refine t_bind R P fun d ρ1 v G1 O1 H1 e1 R1 S1 D1 P1 => ?_
  cases D1 with
  | int i => exact ⟨i, rfl, P1 _ _ _ _ R1 Step.refl rfl⟩
  | _ => exact P1.elim
/-- the part of a list from lo to hi -/
def cutD {α : Type} (xs : List α) (lo hi : Option Int) : List α := (xs.drop (HT.sIx xs.length 0 lo)).take (HT.sIx xs.length xs.length hi - HT.sIx xs.length 0 lo)
def slD (d : PyData) (lo hi : Option Int) : Option PyData := match d with
  | .list ds => some (.list (cutD ds lo hi))
  | .tuple ds => some (.tuple (cutD ds lo hi))
  | .str z => if z.length ≤ lim then some (.str (cutS z lo hi)) else none
  | _ => none
def rSlD (K : PySem.W.Frag) : V → Option Int → Option Int → Hp → VK → Prop := fun x lo hi H Q => ∃ G d z, Same G H ∧ Dr K G x d ∧ slD d lo hi = some z ∧ ∀ v H', Same H H' → Dr K (grow G H H') v z → Q v H'
theorem drl_cut {K : PySem.W.Frag} {G : Hp} {vs : List V} {ds : List PyData} (h : DrL K G vs ds) (lo hi : Option Int) : DrL K G (cutV vs lo hi) (cutD ds lo hi) := by
  unfold cutV cutD
  rw [h.len]
  exact (h.drop _).take _
theorem cutD_whole {α : Type} (xs : List α) {lo hi : Option Int} (h : HT.sIx xs.length 0 lo = 0 ∧ HT.sIx xs.length xs.length hi = xs.length) : cutD xs lo hi = xs := by
  unfold cutD
  rw [h.1, h.2, List.drop_zero, Nat.sub_zero, List.take_length]
theorem sl_tupF : SlR X (fun x lo hi H Q => ∃ a xs, x = .ref a ∧ SqT X.K H a xs ∧
    (HT.sIx xs.length 0 lo = 0 ∧ HT.sIx xs.length xs.length hi = xs.length → Q (.ref a) H) ∧ (¬ (HT.sIx xs.length 0 lo = 0 ∧ HT.sIx xs.length xs.length hi = xs.length) → ∀ p o, H p = none → o.dict = none → Q (.ref p) (upd H p (.frz o (.tup (cutV xs lo hi)))))) := by
  intro pins s σ H x v vl vu lo hi sl Q I rx hs pl pu h
  obtain ⟨a, xs, rfl, hx, q1, q2⟩ := h
  cases rx
  obtain ⟨its, r, ht, hz⟩ := I.tuple hx
  have hlen : its.toArray.size = xs.length := by rw [List.size_toArray]; exact r.length.symm
  refine ⟨"tuple", _, PyProof.Rows.slot_tuple_getitem.lookup, ht.typeIs, ?_⟩
  by_cases hw : HT.sIx xs.length 0 lo = 0 ∧ HT.sIx xs.length xs.length hi = xs.length
  · exact getItem_tuple_whole ht hs pl pu (by rw [hlen]; exact hw) ⟨.ref a, H, I, rfl, q1 hw⟩
  · refine HT.getItem_tuple_cut ht hs pl pu (by rw [hlen]; exact hw) ?_ (by rw [hlen]; exact hz)
    rw [hlen]
    refine ⟨.ref s.heap.objs.size, _, I.laid (t' := s.toks) (o := .frz { cls := .type "tuple", data := .seq ((its.drop (HT.sIx xs.length 0 lo)).take (HT.sIx xs.length xs.length hi - HT.sIx xs.length 0 lo)).toArray } (.tup (cutV xs lo hi))) (fun b ob q => Heap.get?_push_of_some _ q) (Nat.le_refl _) ?_, rfl, q2 hw _ _ (I.hok.fresh (Nat.le_refl _)) rfl⟩
    exact ⟨Heap.get?_push_size _ rfl, Nat.le_trans (cutV_length xs lo hi) hz, _, (r.drop (HT.sIx xs.length 0 lo)).take (HT.sIx xs.length xs.length hi - HT.sIx xs.length 0 lo), IsTup.new _ _⟩
theorem sl_data (hK : X.K = Z.K) : SlR X (rSlD Z.K) := by
  rw [← hK]
  intro pins s σ H x v vl vu lo hi sl Q I rx hs pl pu ⟨G, d, z, g, hx, hg, q⟩
  cases hx with
  | lst h1 h2 =>
    cases hg
    exact sl_list pins s σ H _ v vl vu lo hi sl Q I rx hs pl pu ⟨_, _, rfl, same_l g h1, fun p hp => q _ _ (same_new hp) (.lst (SqL.of (grow_at g hp)) ((drl_cut h2 lo hi).mono grow_same))⟩
  | tup h1 h2 =>
    cases hg
    refine sl_tupF pins s σ H _ v vl vu lo hi sl Q I rx hs pl pu ⟨_, _, rfl, h1.sqT g, fun hw => ?_, fun _ p o hp ho => q _ _ (same_new hp) (.tup ⟨o, grow_at g hp, ho⟩ ((drl_cut h2 lo hi).mono grow_same))⟩
    rw [h2.len] at hw
    rw [cutD_whole _ hw] at q
    exact q _ _ (Same.refl _) (.tup (h1.mono grow_same) (h2.mono grow_same))
  | str zz =>
    obtain ⟨hl, rfl⟩ := ite_some hg
    exact sl_str pins s σ H _ v vl vu lo hi sl Q I rx hs pl pu ⟨zz, rfl, lim_sz hl, q _ _ (Same.refl _) (.str _)⟩
  | _ => cases hg
def eSl (f : Env → R PyData) (lo hi : Env → R (Option Int)) : Env → R PyData := fun ρ => (f ρ).bind fun d ρ1 => (lo ρ1).bind fun l ρ2 => (hi ρ2).bind fun h ρ3 => match slD d l h with
  | some z => .ok z ρ3
  | none => .bad
theorem de_sl {e : Expr} {lo hi : Option Expr} {f : Env → R PyData} {fl fh : Env → R (Option Int)} {p2 pos : Pos} (hK : X.K = Z.K) (he : DE X Z W e f) (hl : DO_ X Z W lo fl) (hh : DO_ X Z W hi fh) : DE X Z W (.Subscript e (.Slice lo hi none p2) pos) (eSl f fl fh) := by
  refine PE_imp (pe_slice (sl_data hK) he hl hh) fun σ H Q ⟨ρ, G, O, R, P⟩ => ?_
  refine t_bind R P fun d ρ1 v G1 O1 H1 e1 R1 S1 D1 P1 => ?_
  refine t_bind R1 P1 fun l ρ2 u G2 O2 H2 e2 R2 S2 D2 P2 => ?_
  subst D2
  refine t_bind R2 P2 fun h ρ3 w G3 O3 H3 e3 R3 S3 D3 P3 => ?_
  subst D3
  cases hg : slD d u w with
  | none =>
    rw [hg] at P3
    exact P3.elim
  | some z =>
    rw [hg] at P3
    exact ⟨G3, d, z, R3.gh, D1.mono (S2.gg.trans S3.gg), hg, post_pure R3 P3⟩

/-! ### own lists, read for a moment -/
theorem Rel.own {ρ : Env} {σ : L2.St} {G : Hp} {O : Own} {H : Hp} (R : Rel Z ρ σ G O H) {i : Nat} {b : Bool} {ds : List PyData} (h : ρ[i]? = some (.ol b ds)) :
    ∃ a vs, σ[i]? = some (some (.ref a)) ∧ O a = some i ∧ G a = none ∧ H a = some (.lst vs) ∧ DrL Z.K G vs ds ∧ Same (upd G a (.lst vs)) H ∧ Dr Z.K (upd G a (.lst vs)) (.ref a) (.list ds) := by
  obtain ⟨a, vs, h1, h2, h3, h4, h5⟩ := R.cell i _ h
  have ga : G a = none := R.go a (by rw [h2]; exact fun z => nomatch z)
  refine ⟨a, vs, h1, h2, ga, h3, h4, fun b o e => ?_, .lst (SqL.of upd_same) (h4.mono (same_new ga))⟩
  by_cases q : b = a
  · subst q
    rw [upd_same] at e
    cases e
    exact h3
  · rw [upd_ne q] at e
    exact R.gh _ _ e
/-- x == e, x != e, x < e with x an own list -/
def cCmpO (g : PyData → PyData → Option Bool) (i : Nat) (fb : Env → R PyData) : Env → R Bool := fun ρ => match ρ[i]? with
  | some (.ol _ _) => (fb ρ).bind fun e ρ2 => match ρ2[i]? with
    | some (.ol _ ds) => match g (.list ds) e with
      | some z => .ok z ρ2
      | none => .bad
    | _ => .bad
  | _ => .bad
theorem cmpO_read {i : Nat} {fb : Env → R PyData} {g : PyData → PyData → Option Bool} {β : Type} {rel : Hp → Own → Hp → β → Bool → Prop} {σ : L2.St} {H : Hp} {Q : β → Hp → Prop} {r : V → V → Hp → Prop}
    (h : T_ Z W rel (cCmpO g i fb) σ H Q) (k : ∀ x y G d e z H' , Same G H' → Dr Z.K G x d → Dr Z.K G y e → g d e = some z → (∀ v, (∀ G O H, rel G O H v z) → Q v H') → r x y H') :
    tVar i σ H fun x H1 => TD Z W fb σ H1 fun y H2 => r x y H2 := by
  obtain ⟨ρ, G, O, R, P⟩ := h
  unfold cCmpO at P
  cases e : ρ[i]? with
  | none => rw [e] at P; exact P.elim
  | some c =>
    cases c with
    | ol b ds =>
      rw [e] at P
      obtain ⟨a, vs, h1, h2, _⟩ := R.own e
      refine ⟨_, h1, ?_⟩
      refine t_bind R P fun y ρ2 u G2 O2 H2 e2 R2 S2 D2 P2 => ?_
      cases e3 : ρ2[i]? with
      | none => rw [e3] at P2; exact P2.elim
      | some c2 =>
        cases c2 with
        | ol b2 ds2 =>
          rw [e3] at P2
          obtain ⟨a2, vs2, g1, g2, g3, g4, g5, g6, g7⟩ := R2.own e3
          rw [h1] at g1
          cases g1
          cases hg : g (.list ds2) y with
          | none =>
            have P2 : Post Z W rel σ G2 O2 H2 Q (match g (.list ds2) y with | some z => .ok z ρ2 | none => .bad) := P2
            rw [hg] at P2
            exact P2.elim
          | some z =>
            have P2 : Post Z W rel σ G2 O2 H2 Q (match g (.list ds2) y with | some z => .ok z ρ2 | none => .bad) := P2
            rw [hg] at P2
            exact k _ _ _ _ _ z H2 g6 g7 (D2.mono (same_new g3)) hg fun v hv => P2 v G2 O2 H2 R2 Step.refl (hv G2 O2 H2)
        | _ => rw [e3] at P2; exact P2.elim
    | _ => rw [e] at P; exact P.elim
theorem dt_cmpO {op : CmpOp} {g : PyData → PyData → Option Bool} {x : Str} {p : Pos} {b : Expr} {i : Nat} {fb : Env → R PyData} {pos : Pos} (ho : OpR X (compareOp op) (rDb Z.K g)) (ha : PE X (.Name x p) (tVar i)) (hb : DE X Z W b fb) (hm : behindInMarks op b = false) : DT X Z W (.Compare (.Name x p) [op] [b] pos) (cCmpO g i fb) :=
  PT_imp (pt_cmpR ho ha hb hm) fun σ H Q h => cmpO_read h fun x y G d e z H' g1 g2 g3 g4 q => ⟨G, d, e, z, g1, g2, g3, g4, z, rfl, q z fun _ _ _ => rfl⟩
def eCmpO (g : PyData → PyData → Option Bool) (i : Nat) (fb : Env → R PyData) : Env → R PyData := fun ρ => (cCmpO g i fb ρ).bind fun b ρ => .ok (.bool b) ρ
/-- v in x, v not in x, with x an own list -/
def cInO (g : PyData → PyData → Option Bool) (fa : Env → R PyData) (i : Nat) : Env → R Bool := fun ρ => (fa ρ).bind fun d ρ1 => match ρ1[i]? with
  | some (.ol _ ds) => match g d (.list ds) with
    | some z => .ok z ρ1
    | none => .bad
  | _ => .bad
theorem inO_read {i : Nat} {fa : Env → R PyData} {g : PyData → PyData → Option Bool} {β : Type} {rel : Hp → Own → Hp → β → Bool → Prop} {σ : L2.St} {H : Hp} {Q : β → Hp → Prop} {r : V → V → Hp → Prop}
    (h : T_ Z W rel (cInO g fa i) σ H Q) (k : ∀ x y G d e z H' , Same G H' → Dr Z.K G x d → Dr Z.K G y e → g d e = some z → (∀ v, (∀ G O H, rel G O H v z) → Q v H') → r x y H') :
    TD Z W fa σ H fun x H1 => tVar i σ H1 fun y H2 => r x y H2 := by
  obtain ⟨ρ, G, O, R, P⟩ := h
  refine t_bind R P fun d ρ1 v G1 O1 H1 e1 R1 S1 D1 P1 => ?_
  cases e : ρ1[i]? with
  | none => rw [e] at P1; exact P1.elim
  | some c =>
    cases c with
    | ol b ds =>
      rw [e] at P1
      obtain ⟨a, vs, h1, h2, h3, h4, h5, h6, h7⟩ := R1.own e
      have P2 : Post Z W rel σ G1 O1 H1 Q (match g d (.list ds) with | some z => .ok z ρ1 | none => .bad) := P1
      cases hg : g d (.list ds) with
      | none => rw [hg] at P2; exact P2.elim
      | some z =>
        rw [hg] at P2
        exact ⟨_, h1, k _ _ _ _ _ z H1 h6 (D1.mono (same_new h3)) h7 hg fun v hv => P2 v G1 O1 H1 R1 Step.refl (hv G1 O1 H1)⟩
    | _ => rw [e] at P1; exact P1.elim
theorem dt_inO {op : CmpOp} {g : PyData → PyData → Option Bool} {x : Str} {p : Pos} {a : Expr} {i : Nat} {fa : Env → R PyData} {pos : Pos} (ho : OpR X (compareOp op) (rDb Z.K g)) (ha : DE X Z W a fa) (hb : PE X (.Name x p) (tVar i)) (hm : behindInMarks op (.Name x p) = false) : DT X Z W (.Compare a [op] [.Name x p] pos) (cInO g fa i) :=
  PT_imp (pt_cmpR ho ha hb hm) fun σ H Q h => inO_read h fun x y G d e z H' g1 g2 g3 g4 q => ⟨G, d, e, z, g1, g2, g3, g4, z, rfl, q z fun _ _ _ => rfl⟩
/-- x[e] with x an own list -/
def eIxO (i : Nat) (fb : Env → R PyData) : Env → R PyData := fun ρ => match ρ[i]? with
  | some (.ol _ _) => (fb ρ).bind fun e ρ2 => match ρ2[i]?, e with
    | some (.ol _ ds), .int k => match atI ds k with
      | some z => .ok z ρ2
      | none => .bad
    | _, _ => .bad
  | _ => .bad
theorem de_ixO {x : Str} {p : Pos} {b : Expr} {i : Nat} {fb : Env → R PyData} {pos : Pos} (hK : X.K = Z.K) (ha : PE X (.Name x p) (tVar i)) (hb : DE X Z W b fb) (hs : PlainIx b) : DE X Z W (.Subscript (.Name x p) b pos) (eIxO i fb) := by
  refine PE_imp (pe_ix ix_list ha hb hs) fun σ H Q ⟨ρ, G, O, R, P⟩ => ?_
  unfold eIxO at P
  cases e : ρ[i]? with
  | none => rw [e] at P; exact P.elim
  | some c =>
    cases c with
    | ol b ds =>
      rw [e] at P
      obtain ⟨a, vs, h1, h2, _⟩ := R.own e
      refine ⟨_, h1, ?_⟩
      refine t_bind R P fun y ρ2 u G2 O2 H2 e2 R2 S2 D2 P2 => ?_
      cases e3 : ρ2[i]? with
      | none => rw [e3] at P2; exact P2.elim
      | some c2 =>
        cases c2 with
        | ol b2 ds2 =>
          rw [e3] at P2
          cases D2 with
          | int k =>
            have P2 : Post Z W _ σ G2 O2 H2 Q (match atI ds2 k with | some z => .ok z ρ2 | none => .bad) := P2
            obtain ⟨a2, vs2, g1, g2, g3, g4, g5, g6, g7⟩ := R2.own e3
            rw [h1] at g1
            cases g1
            cases hg : atI ds2 k with
            | none => rw [hg] at P2; exact P2.elim
            | some z =>
              rw [hg] at P2
              obtain ⟨w, q1, q2⟩ := atI_rel g5 hg
              exact ⟨_, _, k, w, rfl, rfl, SqL.of g4, q1, P2 w G2 O2 H2 R2 Step.refl q2⟩
          | _ => exact P2.elim
        | _ => rw [e3] at P2; exact P2.elim
    | _ => rw [e] at P; exact P.elim

/-! ### own lists, changed -/
theorem Rel.mut {ρ : Env} {σ : L2.St} {G : Hp} {O : Own} {H : Hp} (R : Rel Z ρ σ G O H) {i : Nat} {b : Bool} {ds : List PyData} (h : ρ[i]? = some (.ol b ds)) {a : Addr} (ha : σ[i]? = some (some (.ref a))) {vs' : List V} {ds' : List PyData} (r : DrL Z.K G vs' ds') :
    Rel Z (ρ.set i (.ol b ds')) σ G O (upd H a (.lst vs')) ∧ Step G O H G O (upd H a (.lst vs')) := by
  obtain ⟨a', vs, h1, h2, h3, h4, h5⟩ := R.cell i _ h
  rw [ha] at h1
  cases h1
  have hi : i < ρ.length := (List.getElem?_eq_some_iff.mp h).1
  have ga : G a = none := R.go a (by rw [h2]; exact fun z => nomatch z)
  refine ⟨⟨by rw [List.length_set]; exact R.len, fun b x e => ?_, R.go, fun b e => ?_, fun j c e => ?_⟩, Same.refl _, fun _ q => .inl q, fun _ q => .inl q, fun b x e n => ?_⟩
  · have nb : b ≠ a := fun z => by rw [z, ga] at e; cases e
    rw [upd_ne nb]
    exact R.gh _ _ e
  · by_cases q : b = a
    · subst q
      rw [upd_same]
      exact fun z => nomatch z
    · rw [upd_ne q]
      exact R.oh b e
  · by_cases q : i = j
    · subst q
      rw [List.getElem?_set_self hi] at e
      cases e
      exact ⟨a, vs', ha, h2, upd_same, r, h5⟩
    · rw [get_set_ne q] at e
      refine (R.cell j c e).keep (Same.refl _) (fun _ z => z) fun b x hb hx => ?_
      have nb : b ≠ a := fun z => by
        rw [z, h2] at hb
        exact q (Option.some.inj hb)
      rw [upd_ne nb]
      exact hx
  · have nb : b ≠ a := fun z => by rw [z, h2] at n; cases n
    rw [upd_ne nb]
    exact e
/-- a method with one argument that changes a list: what it gives and what the list is then -/
def eMut1 (g : List PyData → PyData → Option (PyData × List PyData)) (i : Nat) (fa : Env → R PyData) : Env → R PyData := fun ρ => match ρ[i]? with
  | some (.ol _ _) => (fa ρ).bind fun d ρ1 => match ρ1[i]? with
    | some (.ol b ds) => match g ds d with
      | some (z, ds') => .ok z (ρ1.set i (.ol b ds'))
      | none => .bad
    | _ => .bad
  | _ => .bad
theorem de_mut1 {x : Str} {name : Str} {id : String} {p apos cpos : Pos} {e : Expr} {i : Nat} {fa : Env → R PyData} {g : List PyData → PyData → Option (PyData × List PyData)} {r : V → List V → Hp → VK → Prop}
    (slot : Slot "list" name id) (hty : typeOf (.builtin id) = pure (.type "method_descriptor")) (hm : MtR X id r)
    (hr : ∀ a vs ds H G v d z ds' Q, H a = some (.lst vs) → DrL Z.K G vs ds → Dr Z.K G v d → g ds d = some (z, ds') → (∀ w vs', Dr Z.K G w z → DrL Z.K G vs' ds' → Q w (upd H a (.lst vs'))) → r (.ref a) [v] H Q)
    (ha : PE X (.Name x p) (tVar i)) (he : DE X Z W e fa)
    (hbase : attributeBase (.Name x p) name X.env (eval (.Name x p) X.env) = eval (.Name x p) X.env := by rfl)
    (hfew : ((backTo cpos (starEach [e] X.env)).all (fun x => !x.1) && (backToKw cpos (keywordEach [] X.env)).all (fun x => x.1.isSome)
      && decide (([e] : List Expr).length + ([] : List Keyword).length + (if ([] : List Keyword).isEmpty then 0 else 1) < 30)) = true := by rfl)
    (hline : (apos.endLine == cpos.line) = true := by rfl) (hs : starEach [e] X.env = (false, eval e X.env) :: starEach [] X.env := by rfl) (hplain : (backTo cpos (starEach [] X.env)).any (·.1) = false := by rfl) :
    DE X Z W (.Call (.Attribute (.Name x p) name apos) [e] [] cpos) (eMut1 g i fa) := by
  refine PE_imp (pe_bm PySem.F.plainAttrs_list slot hty hm ha (pa_cons he pa_nil hs) hbase hfew hline hs hplain) fun σ H Q ⟨ρ, G, O, R, P⟩ => ?_
  unfold eMut1 at P
  cases e1 : ρ[i]? with
  | none => rw [e1] at P; exact P.elim
  | some c =>
    cases c with
    | ol b0 ds0 =>
      rw [e1] at P
      obtain ⟨a, vs, h1, h2, h3, h4, h5, h6, h7⟩ := R.own e1
      refine ⟨_, h1, .inl ⟨rfl, _, SqL.of h4⟩, ?_⟩
      refine t_bind R P fun d ρ1 v G1 O1 H1 e2 R1 S1 D1 P1 => ?_
      cases e3 : ρ1[i]? with
      | none => rw [e3] at P1; exact P1.elim
      | some c2 =>
        cases c2 with
        | ol b ds =>
          rw [e3] at P1
          have P1 : Post Z W _ σ G1 O1 H1 Q (match g ds d with | some (z, ds') => .ok z (ρ1.set i (.ol b ds')) | none => .bad) := P1
          obtain ⟨a2, vs2, g1, g2, g3, g4, g5, g6, g7⟩ := R1.own e3
          rw [h1] at g1
          cases g1
          cases hg : g ds d with
          | none => rw [hg] at P1; exact P1.elim
          | some zz =>
            obtain ⟨z, ds'⟩ := zz
            rw [hg] at P1
            refine hr a vs2 ds H1 G1 v d z ds' Q g4 g5 D1 hg fun w vs' q1 q2 => ?_
            obtain ⟨R', S'⟩ := R1.mut e3 h1 q2
            exact P1 w _ _ _ R' S' q1
        | _ => rw [e3] at P1; exact P1.elim
    | _ => rw [e1] at P; exact P.elim
def gAppend (ds : List PyData) (d : PyData) : Option (PyData × List PyData) := if ds.length < lim then some (.none, ds ++ [d]) else none
theorem r_append {K : PySem.W.Frag} : ∀ a vs ds H G v d z ds' (Q : VK), H a = some (.lst vs) → DrL K G vs ds → Dr K G v d → gAppend ds d = some (z, ds') → (∀ w vs', Dr K G w z → DrL K G vs' ds' → Q w (upd H a (.lst vs'))) → rAppend (.ref a) [v] H Q := by
  intro a vs ds H G v d z ds' Q h1 h2 h3 hg q
  obtain ⟨hl, e⟩ := ite_some hg
  cases e
  exact ⟨a, vs, v, rfl, rfl, h1, by rw [h2.len]; exact Nat.lt_of_lt_of_le hl (by decide), q _ _ .non (h2.append (.cons h3 .nil))⟩
def gPopAt (ds : List PyData) (d : PyData) : Option (PyData × List PyData) := match d with
  | .int k => if 0 ≤ k ∧ k < ds.length ∧ ds.length ≤ lim then (ds[k.toNat]?).map fun z => (z, ds.eraseIdx k.toNat) else none
  | _ => none
theorem r_popAt {K : PySem.W.Frag} : ∀ a vs ds H G v d z ds' (Q : VK), H a = some (.lst vs) → DrL K G vs ds → Dr K G v d → gPopAt ds d = some (z, ds') → (∀ w vs', Dr K G w z → DrL K G vs' ds' → Q w (upd H a (.lst vs'))) → rPopAt (.ref a) [v] H Q := by
  intro a vs ds H G v d z ds' Q h1 h2 h3 hg q
  cases h3 with
  | int k =>
    have hg' : (if 0 ≤ k ∧ k < ds.length ∧ ds.length ≤ lim then (ds[k.toNat]?).map fun z => (z, ds.eraseIdx k.toNat) else none) = some (z, ds') := hg
    by_cases c : 0 ≤ k ∧ k < ds.length ∧ ds.length ≤ lim
    · rw [if_pos c] at hg'
      obtain ⟨z', e1, e2⟩ := Option.map_eq_some_iff.mp hg'
      cases e2
      obtain ⟨w, e3, r3⟩ := h2.getD e1
      have hl := h2.len
      have hlim : (lim : Nat) = 1000000 := rfl
      exact ⟨a, vs, k, k.toNat, w, rfl, rfl, h1, by omega, by omega, seqIndex_of c.1 (by omega), e3, q _ _ r3 (h2.erase _)⟩
    · rw [if_neg c] at hg'
      cases hg'
  | _ => cases hg
/-- a method without arguments that changes a list -/
def eMut0 (g : List PyData → Option (PyData × List PyData)) (i : Nat) : Env → R PyData := fun ρ => match ρ[i]? with
  | some (.ol b ds) => match g ds with
    | some (z, ds') => .ok z (ρ.set i (.ol b ds'))
    | none => .bad
  | _ => .bad
theorem de_mut0 {x : Str} {name : Str} {id : String} {p apos cpos : Pos} {i : Nat} {g : List PyData → Option (PyData × List PyData)} {r : V → List V → Hp → VK → Prop}
    (slot : Slot "list" name id) (hty : typeOf (.builtin id) = pure (.type "method_descriptor")) (hm : MtR X id r)
    (hr : ∀ a vs ds H G z ds' Q, H a = some (.lst vs) → DrL Z.K G vs ds → g ds = some (z, ds') → (∀ w vs', Dr Z.K G w z → DrL Z.K G vs' ds' → Q w (upd H a (.lst vs'))) → r (.ref a) [] H Q)
    (ha : PE X (.Name x p) (tVar i))
    (hbase : attributeBase (.Name x p) name X.env (eval (.Name x p) X.env) = eval (.Name x p) X.env := by rfl) (hline : (apos.endLine == cpos.line) = true := by rfl) :
    DE X Z W (.Call (.Attribute (.Name x p) name apos) [] [] cpos) (eMut0 g i) := by
  refine PE_imp (pe_bm0 PySem.F.plainAttrs_list slot hty hm ha hbase hline) fun σ H Q ⟨ρ, G, O, R, P⟩ => ?_
  unfold eMut0 at P
  cases e1 : ρ[i]? with
  | none => rw [e1] at P; exact P.elim
  | some c =>
    cases c with
    | ol b ds =>
      rw [e1] at P
      have P : Post Z W _ σ G O H Q (match g ds with | some (z, ds') => .ok z (ρ.set i (.ol b ds')) | none => .bad) := P
      obtain ⟨a, vs, h1, h2, h3, h4, h5, h6, h7⟩ := R.own e1
      refine ⟨_, h1, .inl ⟨rfl, _, SqL.of h4⟩, ?_⟩
      cases hg : g ds with
      | none => rw [hg] at P; exact P.elim
      | some zz =>
        obtain ⟨z, ds'⟩ := zz
        rw [hg] at P
        refine hr a vs ds H G z ds' Q h4 h5 hg fun w vs' q1 q2 => ?_
        obtain ⟨R', S'⟩ := R.mut e1 h1 q2
        exact P w _ _ _ R' S' q1
    | _ => rw [e1] at P; exact P.elim
def gPop (ds : List PyData) : Option (PyData × List PyData) := (ds[ds.length - 1]?).map fun z => (z, ds.dropLast)
theorem DrL.dropLast {K : PySem.W.Frag} {G : Hp} {vs : List V} {ds : List PyData} (h : DrL K G vs ds) : DrL K G vs.dropLast ds.dropLast := by
  rw [List.dropLast_eq_take, List.dropLast_eq_take, h.len]
  exact h.take _
theorem r_pop {K : PySem.W.Frag} : ∀ a vs ds H G z ds' (Q : VK), H a = some (.lst vs) → DrL K G vs ds → gPop ds = some (z, ds') → (∀ w vs', Dr K G w z → DrL K G vs' ds' → Q w (upd H a (.lst vs'))) → rPop (.ref a) [] H Q := by
  intro a vs ds H G z ds' Q h1 h2 hg q
  obtain ⟨z', e1, e2⟩ := Option.map_eq_some_iff.mp hg
  cases e2
  obtain ⟨w, e3, r3⟩ := h2.getD e1
  exact ⟨a, vs, w, rfl, rfl, h1, by rw [h2.len]; exact e3, q _ _ r3 h2.dropLast⟩
def gRev (ds : List PyData) : Option (PyData × List PyData) := some (.none, ds.reverse)
theorem r_rev {K : PySem.W.Frag} : ∀ a vs ds H G z ds' (Q : VK), H a = some (.lst vs) → DrL K G vs ds → gRev ds = some (z, ds') → (∀ w vs', Dr K G w z → DrL K G vs' ds' → Q w (upd H a (.lst vs'))) → rReverse (.ref a) [] H Q := by
  intro a vs ds H G z ds' Q h1 h2 hg q
  cases hg
  exact ⟨a, vs, rfl, rfl, h1, q _ _ .non h2.rev⟩
def gClear (ds : List PyData) : Option (PyData × List PyData) := some (.none, [])
theorem r_clear {K : PySem.W.Frag} : ∀ a vs ds H G z ds' (Q : VK), H a = some (.lst vs) → DrL K G vs ds → gClear ds = some (z, ds') → (∀ w vs', Dr K G w z → DrL K G vs' ds' → Q w (upd H a (.lst vs'))) → rClear (.ref a) [] H Q := by
  intro a vs ds H G z ds' Q h1 h2 hg q
  cases hg
  exact ⟨a, vs, rfl, rfl, h1, q _ _ .non .nil⟩

/-! ### calls of built-ins -/
def rDc (K : PySem.W.Frag) (g : List PyData → Option PyData) : List V → Hp → VK → Prop := fun vs H Q => ∃ G ds z, Same G H ∧ DrL K G vs ds ∧ g ds = some z ∧ ∀ v H', Same H H' → Dr K (grow G H H') v z → Q v H'
def eCall (g : List PyData → Option PyData) (fa : Env → R (List PyData)) : Env → R PyData := fun ρ => (fa ρ).bind fun ds ρ1 => match g ds with
  | some z => .ok z ρ1
  | none => .bad
theorem td_call {fa : Env → R (List PyData)} {g : List PyData → Option PyData} {n : Nat} {σ : L2.St} {H : Hp} {Q : VK} (h : TD Z W (eCall g fa) σ H Q) : TA_ Z W n fa σ H (fun vs H1 => rDc Z.K g vs H1 Q) ∨ True := .inr trivial
theorem de_callB {x : Str} {p pos : Pos} {e : Expr} {es : List Expr} {fa : Env → R (List PyData)} {g : List PyData → Option PyData} {id : String} (hc : CallR X (.builtin id) (rDc Z.K g)) (hg : Gl X x) (hm : X.mg x = none) (hv : bootBuiltins x = some (.builtin id)) (ha : DAs X Z W (e :: es) fa) (hn : x ≠ "__name__" := by decide) (hdb : (x == ("__debug__" : Str)) = false := by decide)
    (he : starEach (e :: es) X.env = (false, eval e X.env) :: starEach es X.env := by rfl) (hpl : (backTo pos (starEach es X.env)).any (·.1) = false := by rfl) : DE X Z W (.Call (.Name x p) (e :: es) [] pos) (eCall g fa) := by
  refine PE_imp (pe_callB hc hg hm hv ha hn hdb he hpl) fun σ H Q ⟨ρ, G, O, R, P⟩ => ?_
  refine t_bind R P fun ds ρ1 vs G1 O1 H1 e1 R1 S1 D1 P1 => ?_
  cases hg : g ds with
  | none => rw [hg] at P1; exact P1.elim
  | some z =>
    rw [hg] at P1
    exact ⟨G1, ds, z, R1.gh, D1.1, hg, post_pure R1 P1⟩
theorem de_callTy {x : Str} {p pos : Pos} {e : Expr} {es : List Expr} {fa : Env → R (List PyData)} {g : List PyData → Option PyData} {T : String} (hc : CallR X (.type T) (rDc Z.K g)) (hg : Gl X x) (hm : X.mg x = none) (hv : bootBuiltins x = some (.type T)) (ha : DAs X Z W (e :: es) fa) (hn : x ≠ "__name__" := by decide) (hdb : (x == ("__debug__" : Str)) = false := by decide)
    (he : starEach (e :: es) X.env = (false, eval e X.env) :: starEach es X.env := by rfl) (hpl : (backTo pos (starEach es X.env)).any (·.1) = false := by rfl) : DE X Z W (.Call (.Name x p) (e :: es) [] pos) (eCall g fa) := by
  refine PE_imp (pe_callTy hc hg hm hv ha hn hdb he hpl) fun σ H Q ⟨ρ, G, O, R, P⟩ => ?_
  refine t_bind R P fun ds ρ1 vs G1 O1 H1 e1 R1 S1 D1 P1 => ?_
  cases hg : g ds with
  | none => rw [hg] at P1; exact P1.elim
  | some z =>
    rw [hg] at P1
    exact ⟨G1, ds, z, R1.gh, D1.1, hg, post_pure R1 P1⟩
def arg1 (g : PyData → Option PyData) : List PyData → Option PyData
  | [d] => g d
  | _ => none
/-- len(x) -/
def len1 : PyData → Option PyData
  | .list ds => some (.int ds.length)
  | .tuple ds => some (.int ds.length)
  | .dict kvs => some (.int kvs.length)
  | .str z => if z.length ≤ lim then some (.int z.length) else none
  | _ => none
abbrev lenD : List PyData → Option PyData := arg1 len1
theorem DrK.len {K : PySem.W.Frag} {G : Hp} : ∀ {kv : List (Key × V)} {kvs : List (PyData × PyData)}, DrK K G kv kvs → kv.length = kvs.length
  | _, _, .nil => rfl
  | _, _, .cons _ t => congrArg (· + 1) (DrK.len t)
theorem drl_one {K : PySem.W.Frag} {G : Hp} {vs : List V} {d : PyData} (h : DrL K G vs [d]) : ∃ v, vs = [v] ∧ Dr K G v d := by
  cases h with
  | cons h t => cases t; exact ⟨_, rfl, h⟩
theorem drl_two {K : PySem.W.Frag} {G : Hp} {vs : List V} {d e : PyData} (h : DrL K G vs [d, e]) : ∃ v w, vs = [v, w] ∧ Dr K G v d ∧ Dr K G w e := by
  cases h with
  | cons h t =>
    obtain ⟨w, rfl, r⟩ := drl_one t
    exact ⟨_, w, rfl, h, r⟩
theorem cd_len (hK : X.K = Z.K) : CallR X (.builtin "len") (rDc Z.K lenD) := by
  rw [← hK]
  intro pins s σ H xs us Q I r ⟨G, ds, z, g, hx, hg, q⟩
  match ds, hx, hg with
  | [d], hx, hg =>
    obtain ⟨v, rfl, hd⟩ := drl_one hx
    cases hd with
    | lst h1 h2 =>
      cases hg
      refine call_len pins s σ H _ us Q I r ⟨_, _, rfl, .inl ⟨_, same_l g h1, rfl⟩, ?_⟩
      rw [h2.len]
      exact q _ _ (Same.refl _) (.int _)
    | tup h1 h2 =>
      cases hg
      refine call_len pins s σ H _ us Q I r ⟨_, _, rfl, .inr ⟨_, h1.sqT g, rfl⟩, ?_⟩
      rw [h2.len]
      exact q _ _ (Same.refl _) (.int _)
    | str zz =>
      obtain ⟨hl, rfl⟩ := ite_some hg
      exact call_len pins s σ H _ us Q I r ⟨_, _, rfl, ⟨lim_sz hl, rfl⟩, q _ _ (Same.refl _) (.int _)⟩
    | dK h1 h2 =>
      cases hg
      obtain ⟨u, rfl, ru⟩ := vals1 r
      cases ru
      refine d_len I (.inr ⟨_, g _ _ h1⟩) fun t s' I' => ⟨.int _, H, I', ⟨t, rfl⟩, ?_⟩
      rw [h2.len]
      exact q _ _ (Same.refl _) (.int _)
    | _ => cases hg
  | _ :: _ :: _, hx, hg => cases hg
/-- len(x) of an own list -/
def eLenO (i : Nat) : Env → R PyData := fun ρ => match ρ[i]? with
  | some (.ol _ ds) => .ok (.int ds.length) ρ
  | _ => .bad
theorem de_lenO {x : Str} {p pos p2 : Pos} {i : Nat} (hg : Gl X "len") (hm : X.mg "len" = none) (ha : PE X (.Name x p) (tVar i))
    (he : starEach [.Name x p] X.env = (false, eval (.Name x p) X.env) :: starEach [] X.env := by rfl) (hpl : (backTo pos (starEach [] X.env)).any (·.1) = false := by rfl) : DE X Z W (.Call (.Name "len" p2) [.Name x p] [] pos) (eLenO i) := by
  refine PE_imp (pe_callB call_len hg hm PySem.boot_len (pa_cons ha pa_nil he) (by decide) (by decide) he hpl) fun σ H Q ⟨ρ, G, O, R, P⟩ => ?_
  unfold eLenO at P
  cases e1 : ρ[i]? with
  | none => rw [e1] at P; exact P.elim
  | some c =>
    cases c with
    | ol b ds =>
      rw [e1] at P
      obtain ⟨a, vs, h1, h2, h3, h4, h5, h6, h7⟩ := R.own e1
      refine ⟨_, h1, _, _, rfl, .inl ⟨vs, SqL.of h4, rfl⟩, ?_⟩
      rw [h5.len]
      exact P _ G O H R Step.refl (.int _)
    | _ => rw [e1] at P; exact P.elim
/-- list(x), tuple(x) of a list or a tuple -/
def list1 : PyData → Option PyData
  | .list ds => some (.list ds)
  | .tuple ds => some (.list ds)
  | _ => none
def tuple1 : PyData → Option PyData
  | .list ds => some (.tuple ds)
  | .tuple ds => some (.tuple ds)
  | _ => none
abbrev listD : List PyData → Option PyData := arg1 list1
abbrev tupleD : List PyData → Option PyData := arg1 tuple1
theorem cd_list (hK : X.K = Z.K) : CallR X (.type "list") (rDc Z.K listD) := by
  rw [← hK]
  intro pins s σ H xs us Q I r ⟨G, ds, z, g, hx, hg, q⟩
  match ds, hx, hg with
  | [d], hx, hg =>
    obtain ⟨v, rfl, hd⟩ := drl_one hx
    cases hd with
    | lst h1 h2 =>
      cases hg
      exact call_list_of pins s σ H _ us Q I r ⟨_, _, rfl, .inl (same_l g h1), fun p hp => q _ _ (same_new hp) (.lst (SqL.of (grow_at g hp)) (h2.mono grow_same))⟩
    | tup h1 h2 =>
      cases hg
      exact call_list_of pins s σ H _ us Q I r ⟨_, _, rfl, .inr (h1.sqT g), fun p hp => q _ _ (same_new hp) (.lst (SqL.of (grow_at g hp)) (h2.mono grow_same))⟩
    | _ => cases hg
  | _ :: _ :: _, hx, hg => cases hg
theorem cd_tuple (hK : X.K = Z.K) : CallR X (.type "tuple") (rDc Z.K tupleD) := by
  rw [← hK]
  intro pins s σ H xs us Q I r ⟨G, ds, z, g, hx, hg, q⟩
  match ds, hx, hg with
  | [d], hx, hg =>
    obtain ⟨v, rfl, hd⟩ := drl_one hx
    cases hd with
    | lst h1 h2 =>
      cases hg
      obtain ⟨u, rfl, ru⟩ := vals1 r
      cases ru
      obtain ⟨its, rv, pl, hz⟩ := I.list (same_l g h1)
      refine call_tuple_list pl.isList (fun h' hk => ?_) (by rw [List.size_toArray, ← rv.length]; exact hz)
      have I1 : Inv X pins σ H { s with heap := h' } := I.kept (t' := s.toks) hk
      have hn : H h'.objs.size = none := I1.hok.fresh (Nat.le_refl _)
      refine ⟨.ref h'.objs.size, _, I1.laid (t' := s.toks) (o := .frz { cls := .type "tuple", data := .seq its.toArray } (.tup _)) (fun b o e => Heap.get?_push_of_some _ e) (Nat.le_refl _) ⟨Heap.get?_push_size _ rfl, hz, its, rv, IsTup.new _ _⟩, rfl, q _ _ (same_new hn) (.tup ⟨_, grow_at g hn, rfl⟩ (h2.mono grow_same))⟩
    | tup h1 h2 =>
      cases hg
      exact call_tuple_of pins s σ H _ us Q I r ⟨_, _, rfl, .inr ⟨h1.sqT g, q _ _ (Same.refl _) (.tup (h1.mono grow_same) (h2.mono grow_same))⟩⟩
    | _ => cases hg
  | _ :: _ :: _, hx, hg => cases hg
/-! all, any, max, min, sum, int -/
def boolsOf : List PyData → Option (List Bool)
  | [] => some []
  | .bool b :: r => (boolsOf r).map (b :: ·)
  | _ :: _ => none
def intsOf : List PyData → Option (List Int)
  | [] => some []
  | .int b :: r => (intsOf r).map (b :: ·)
  | _ :: _ => none
def strsOf : List PyData → Option (List Str)
  | [] => some []
  | .str b :: r => (strsOf r).map (b :: ·)
  | _ :: _ => none
theorem bools_rel {K : PySem.W.Frag} {G : Hp} : ∀ {vs : List V} {ds : List PyData} {bs : List Bool}, DrL K G vs ds → boolsOf ds = some bs → vs = bs.map V.bl
  | _, _, _, .nil, h => by cases h; rfl
  | _, _, bs, .cons (d := d) (ds := ds) h t, e => by
    cases h with
    | bl b =>
      obtain ⟨r, e1, e2⟩ := Option.map_eq_some_iff.mp (show (boolsOf ds).map (b :: ·) = some bs from e)
      subst e2
      rw [bools_rel t e1]
      rfl
    | _ => cases e
theorem ints_rel {K : PySem.W.Frag} {G : Hp} : ∀ {vs : List V} {ds : List PyData} {bs : List Int}, DrL K G vs ds → intsOf ds = some bs → vs = bs.map V.int
  | _, _, _, .nil, h => by cases h; rfl
  | _, _, bs, .cons (d := d) (ds := ds) h t, e => by
    cases h with
    | int b =>
      obtain ⟨r, e1, e2⟩ := Option.map_eq_some_iff.mp (show (intsOf ds).map (b :: ·) = some bs from e)
      subst e2
      rw [ints_rel t e1]
      rfl
    | _ => cases e
theorem strs_rel {K : PySem.W.Frag} {G : Hp} : ∀ {vs : List V} {ds : List PyData} {bs : List Str}, DrL K G vs ds → strsOf ds = some bs → vs = bs.map V.str
  | _, _, _, .nil, h => by cases h; rfl
  | _, _, bs, .cons (d := d) (ds := ds) h t, e => by
    cases h with
    | str b =>
      obtain ⟨r, e1, e2⟩ := Option.map_eq_some_iff.mp (show (strsOf ds).map (b :: ·) = some bs from e)
      subst e2
      rw [strs_rel t e1]
      rfl
    | _ => cases e
def all1 : PyData → Option PyData
  | .list ds => (boolsOf ds).map fun bs => .bool (bs.all id)
  | _ => none
abbrev allD : List PyData → Option PyData := arg1 all1
def any1 : PyData → Option PyData
  | .list ds => (boolsOf ds).map fun bs => .bool (bs.any id)
  | _ => none
abbrev anyD : List PyData → Option PyData := arg1 any1
def sum1 : PyData → Option PyData
  | .list ds => (intsOf ds).map fun bs => .int bs.sum
  | _ => none
abbrev sumD : List PyData → Option PyData := arg1 sum1
theorem cd_all (hK : X.K = Z.K) (hc : X.calm = true) : CallR X (.builtin "all") (rDc Z.K allD) := by
  rw [← hK]
  intro pins s σ H xs us Q I r ⟨G, ds, z, g, hx, hg, q⟩
  match ds, hx, hg with
  | [d], hx, hg =>
    obtain ⟨v, rfl, hd⟩ := drl_one hx
    cases hd with
    | @lst _ _ ds h1 h2 =>
      obtain ⟨bs, e1, e2⟩ := Option.map_eq_some_iff.mp (show (boolsOf ds).map (fun bs => PyData.bool (bs.all id)) = some z from hg)
      subst e2
      have ev := bools_rel h2 e1
      subst ev
      exact cr_all hc pins s σ H _ us Q I r ⟨_, bs, rfl, same_l g h1, q _ _ (Same.refl _) (.bl _)⟩
    | _ => cases hg
  | _ :: _ :: _, hx, hg => cases hg
theorem cd_any (hK : X.K = Z.K) (hc : X.calm = true) : CallR X (.builtin "any") (rDc Z.K anyD) := by
  rw [← hK]
  intro pins s σ H xs us Q I r ⟨G, ds, z, g, hx, hg, q⟩
  match ds, hx, hg with
  | [d], hx, hg =>
    obtain ⟨v, rfl, hd⟩ := drl_one hx
    cases hd with
    | @lst _ _ ds h1 h2 =>
      obtain ⟨bs, e1, e2⟩ := Option.map_eq_some_iff.mp (show (boolsOf ds).map (fun bs => PyData.bool (bs.any id)) = some z from hg)
      subst e2
      have ev := bools_rel h2 e1
      subst ev
      exact cr_any hc pins s σ H _ us Q I r ⟨_, bs, rfl, same_l g h1, q _ _ (Same.refl _) (.bl _)⟩
    | _ => cases hg
  | _ :: _ :: _, hx, hg => cases hg
theorem cd_sum (hK : X.K = Z.K) (hc : X.calm = true) : CallR X (.builtin "sum") (rDc Z.K sumD) := by
  rw [← hK]
  intro pins s σ H xs us Q I r ⟨G, ds, z, g, hx, hg, q⟩
  match ds, hx, hg with
  | [d], hx, hg =>
    obtain ⟨v, rfl, hd⟩ := drl_one hx
    cases hd with
    | @lst _ _ ds h1 h2 =>
      obtain ⟨bs, e1, e2⟩ := Option.map_eq_some_iff.mp (show (intsOf ds).map (fun bs => PyData.int bs.sum) = some z from hg)
      subst e2
      have ev := ints_rel h2 e1
      subst ev
      exact cr_sum hc pins s σ H _ us Q I r ⟨_, bs, rfl, same_l g h1, q _ _ (Same.refl _) (.int _)⟩
    | _ => cases hg
  | _ :: _ :: _, hx, hg => cases hg
def maxL : Int → List Int → Int
  | m, [] => m
  | m, x :: r => maxL (if x > m then x else m) r
def minL : Int → List Int → Int
  | m, [] => m
  | m, x :: r => minL (if x < m then x else m) r
theorem maxL_ge : ∀ (r : List Int) (m : Int), m ≤ maxL m r ∧ (∀ y, y ∈ r → y ≤ maxL m r) ∧ (maxL m r = m ∨ maxL m r ∈ r)
  | [], m => ⟨Int.le_refl _, fun _ h => (List.not_mem_nil h).elim, .inl rfl⟩
  | x :: r, m => by
    show m ≤ maxL (if x > m then x else m) r ∧ (∀ y, y ∈ x :: r → y ≤ maxL (if x > m then x else m) r) ∧ (maxL (if x > m then x else m) r = m ∨ maxL (if x > m then x else m) r ∈ x :: r)
    by_cases c : x > m
    · rw [if_pos c]
      obtain ⟨h1, h2, h3⟩ := maxL_ge r x
      refine ⟨by omega, fun y hy => ?_, ?_⟩
      · rcases List.mem_cons.mp hy with e | hy
        · omega
        · exact h2 y hy
      · rcases h3 with h3 | h3
        · exact .inr (by rw [h3]; exact List.mem_cons_self)
        · exact .inr (List.mem_cons_of_mem _ h3)
    · rw [if_neg c]
      obtain ⟨h1, h2, h3⟩ := maxL_ge r m
      refine ⟨h1, fun y hy => ?_, ?_⟩
      · rcases List.mem_cons.mp hy with e | hy
        · omega
        · exact h2 y hy
      · rcases h3 with h3 | h3
        · exact .inl h3
        · exact .inr (List.mem_cons_of_mem _ h3)
theorem minL_le : ∀ (r : List Int) (m : Int), minL m r ≤ m ∧ (∀ y, y ∈ r → minL m r ≤ y) ∧ (minL m r = m ∨ minL m r ∈ r)
  | [], m => ⟨Int.le_refl _, fun _ h => (List.not_mem_nil h).elim, .inl rfl⟩
  | x :: r, m => by
    show minL (if x < m then x else m) r ≤ m ∧ (∀ y, y ∈ x :: r → minL (if x < m then x else m) r ≤ y) ∧ (minL (if x < m then x else m) r = m ∨ minL (if x < m then x else m) r ∈ x :: r)
    by_cases c : x < m
    · rw [if_pos c]
      obtain ⟨h1, h2, h3⟩ := minL_le r x
      refine ⟨by omega, fun y hy => ?_, ?_⟩
      · rcases List.mem_cons.mp hy with e | hy
        · omega
        · exact h2 y hy
      · rcases h3 with h3 | h3
        · exact .inr (by rw [h3]; exact List.mem_cons_self)
        · exact .inr (List.mem_cons_of_mem _ h3)
    · rw [if_neg c]
      obtain ⟨h1, h2, h3⟩ := minL_le r m
      refine ⟨h1, fun y hy => ?_, ?_⟩
      · rcases List.mem_cons.mp hy with e | hy
        · omega
        · exact h2 y hy
      · rcases h3 with h3 | h3
        · exact .inl h3
        · exact .inr (List.mem_cons_of_mem _ h3)
def max1 : PyData → Option PyData
  | .list ds => match intsOf ds with
    | some (m :: r) => some (.int (maxL m r))
    | _ => none
  | _ => none
def max2 : PyData → PyData → Option PyData
  | .int i, .int j => some (.int (if j > i then j else i))
  | _, _ => none
def maxD : List PyData → Option PyData
  | [d] => max1 d
  | [d, e] => max2 d e
  | _ => none
def min1 : PyData → Option PyData
  | .list ds => match intsOf ds with
    | some (m :: r) => some (.int (minL m r))
    | _ => none
  | _ => none
def min2 : PyData → PyData → Option PyData
  | .int i, .int j => some (.int (if j < i then j else i))
  | _, _ => none
def minD : List PyData → Option PyData
  | [d] => min1 d
  | [d, e] => min2 d e
  | _ => none
theorem cd_max (hK : X.K = Z.K) (hc : X.calm = true) : CallR X (.builtin "max") (rDc Z.K maxD) := by
  rw [← hK]
  intro pins s σ H xs us Q I r ⟨G, ds, z, g, hx, hg, q⟩
  match ds, hx, hg with
  | [d], hx, hg =>
    obtain ⟨v, rfl, hd⟩ := drl_one hx
    cases hd with
    | @lst _ _ ds h1 h2 =>
      have hg' : (match intsOf ds with | some (m :: r) => some (PyData.int (maxL m r)) | _ => none) = some z := hg
      cases e1 : intsOf ds with
      | none => rw [e1] at hg'; cases hg'
      | some bs =>
        cases bs with
        | nil => rw [e1] at hg'; cases hg'
        | cons m t =>
          rw [e1] at hg'
          cases hg'
          have ev := ints_rel h2 e1
          subst ev
          refine cr_max hc pins s σ H _ us Q I r ⟨_, m :: t, rfl, same_l g h1, Nat.succ_pos _, fun k hk hle => ?_⟩
          obtain ⟨a1, a2, a3⟩ := maxL_ge t m
          have e : k = maxL m t := by
            have b1 : k ≤ maxL m t := by
              rcases List.mem_cons.mp hk with e | hk
              · rw [e]; exact a1
              · exact a2 k hk
            have b2 : maxL m t ≤ k := by
              rcases a3 with e | a3
              · rw [e]; exact hle m List.mem_cons_self
              · exact hle _ (List.mem_cons_of_mem _ a3)
            omega
          rw [e]
          exact q _ _ (Same.refl _) (.int _)
    | _ => cases hg
  | [d, e], hx, hg =>
    obtain ⟨v, w, rfl, hd, he⟩ := drl_two hx
    cases hd with
    | int i =>
      cases he with
      | int j =>
        cases hg
        exact call_max2 hc pins s σ H _ us Q I r ⟨i, j, rfl, q _ _ (Same.refl _) (.int _)⟩
      | _ => cases hg
    | _ => cases hg
  | _ :: _ :: _ :: _, hx, hg => cases hg
theorem cd_min (hK : X.K = Z.K) (hc : X.calm = true) : CallR X (.builtin "min") (rDc Z.K minD) := by
  rw [← hK]
  intro pins s σ H xs us Q I r ⟨G, ds, z, g, hx, hg, q⟩
  match ds, hx, hg with
  | [d], hx, hg =>
    obtain ⟨v, rfl, hd⟩ := drl_one hx
    cases hd with
    | @lst _ _ ds h1 h2 =>
      have hg' : (match intsOf ds with | some (m :: r) => some (PyData.int (minL m r)) | _ => none) = some z := hg
      cases e1 : intsOf ds with
      | none => rw [e1] at hg'; cases hg'
      | some bs =>
        cases bs with
        | nil => rw [e1] at hg'; cases hg'
        | cons m t =>
          rw [e1] at hg'
          cases hg'
          have ev := ints_rel h2 e1
          subst ev
          refine cr_min hc pins s σ H _ us Q I r ⟨_, m :: t, rfl, same_l g h1, Nat.succ_pos _, fun k hk hle => ?_⟩
          obtain ⟨a1, a2, a3⟩ := minL_le t m
          have e : k = minL m t := by
            have b1 : minL m t ≤ k := by
              rcases List.mem_cons.mp hk with e | hk
              · rw [e]; exact a1
              · exact a2 k hk
            have b2 : k ≤ minL m t := by
              rcases a3 with e | a3
              · rw [e]; exact hle m List.mem_cons_self
              · exact hle _ (List.mem_cons_of_mem _ a3)
            omega
          rw [e]
          exact q _ _ (Same.refl _) (.int _)
    | _ => cases hg
  | [d, e], hx, hg =>
    obtain ⟨v, w, rfl, hd, he⟩ := drl_two hx
    cases hd with
    | int i =>
      cases he with
      | int j =>
        cases hg
        exact call_min2 hc pins s σ H _ us Q I r ⟨i, j, rfl, q _ _ (Same.refl _) (.int _)⟩
      | _ => cases hg
    | _ => cases hg
  | _ :: _ :: _ :: _, hx, hg => cases hg
def int1 : PyData → Option PyData
  | .int i => some (.int i)
  | .bool b => some (.int (if b then 1 else 0))
  | _ => none
abbrev intD : List PyData → Option PyData := arg1 int1
theorem cd_int (hK : X.K = Z.K) : CallR X (.type "int") (rDc Z.K intD) := by
  rw [← hK]
  intro pins s σ H xs us Q I r ⟨G, ds, z, g, hx, hg, q⟩
  match ds, hx, hg with
  | [d], hx, hg =>
    obtain ⟨v, rfl, hd⟩ := drl_one hx
    cases hd with
    | int i =>
      cases hg
      exact call_int1 pins s σ H _ us Q I r (.inl ⟨i, rfl, q _ _ (Same.refl _) (.int _)⟩)
    | bl b =>
      cases hg
      exact call_int1 pins s σ H _ us Q I r (.inr ⟨b, rfl, q _ _ (Same.refl _) (.int _)⟩)
    | _ => cases hg
  | _ :: _ :: _, hx, hg => cases hg
/-! isinstance -/
def tyN : PyData → String
  | .none => "NoneType"
  | .bool _ => "bool"
  | .int _ => "int"
  | .str _ => "str"
  | .list _ => "list"
  | .tuple _ => "tuple"
  | .dict _ => "dict"
theorem dr_ty {K : PySem.W.Frag} {G H : Hp} {v : V} {d : PyData} (g : Same G H) (h : Dr K G v d) (nt : ∀ ds, d ≠ .tuple ds) : TyX K H v (.type (tyN d)) := by
  cases h with
  | non => exact .base .non
  | bl b => exact .base (.bl b)
  | int i => exact .base (.int i)
  | str x => exact .base (.str x)
  | lst h1 h2 =>
    rcases same_l g h1 with (e | ⟨o, e⟩) | ⟨o, its, n, e, hc, _⟩
    · exact .base (.lst e)
    · exact .base (.frz e)
    · exact .kList e hc
  | tup h1 h2 => exact absurd rfl (nt _)
  | dK h1 h2 => exact .fDict (g _ _ h1)
/-- isinstance(x, T), T a built-in type's name -/
def isiTup (T : String) : Option Bool := if T = "tuple" then some true else if T = "list" then some false else if T = "int" then some false else if T = "str" then some false else if T = "bool" then some false else if T = "dict" then some false else none
def isiD (T : String) (d : PyData) : Option PyData := match d with
  | .tuple _ => (isiTup T).map .bool
  | d => (kitB (tyN d) T).map .bool
theorem call_isiT : CallR X (.builtin "isinstance") (fun xs H Q => ∃ a ys T b, xs = [.ref a, .ty T] ∧ SqT X.K H a ys ∧ isiTup T = some b ∧ Q (.bl b) H) := by
  intro pins s σ H xs us Q I r h
  obtain ⟨a, ys, T, b, rfl, ha, hb, q⟩ := h
  cases r with
  | cons rx rr =>
    cases rr with
    | cons rt rr =>
      cases rr
      cases rx
      cases rt
      obtain ⟨its, rv, p, hz⟩ := I.tuple ha
      have hL : s.heap.IsTuple a its.toArray := p
      have fin : ∀ tk, EP X pins σ Q (.bool b) { s with toks := tk } := fun tk => ⟨.bl b, H, I.kept (t' := tk) fun _ _ z => z, rfl, q⟩
      unfold isiTup at hb
      split at hb
      · rename_i e
        cases hb
        subst e
        exact IsiPair.isTuple_tuple hL (fun _ _ z => z) (fin s.toks)
      split at hb
      · rename_i e
        cases hb
        subst e
        exact IsiPair.isTuple_list hL (fun _ _ z => z) (fin _)
      split at hb
      · rename_i e
        cases hb
        subst e
        exact IsiPair.isTuple_int hL (fun _ _ z => z) (fin _)
      split at hb
      · rename_i e
        cases hb
        subst e
        exact IsiPair.isTuple_str hL (fun _ _ z => z) (fin _)
      split at hb
      · rename_i e
        cases hb
        subst e
        exact IsiPair.isTuple_bool hL (fun _ _ z => z) (fin _)
      split at hb
      · rename_i e
        cases hb
        subst e
        exact IsiPair.isTuple_dict hL (fun _ _ z => z) (fin _)
      cases hb
theorem CallR.or {f : Value} {r r' : List V → Hp → VK → Prop} (h : CallR X f r) (h' : CallR X f r') : CallR X f (fun xs H Q => r xs H Q ∨ r' xs H Q) := by
  intro pins s σ H xs us Q I rr q
  rcases q with q | q
  · exact h pins s σ H xs us Q I rr q
  · exact h' pins s σ H xs us Q I rr q
def eIsi (T : String) (fa : Env → R PyData) : Env → R PyData := fun ρ => (fa ρ).bind fun d ρ1 => match isiD T d with
  | some z => .ok z ρ1
  | none => .bad
theorem de_isi {T : String} {y : Str} {p p2 pos : Pos} {a : Expr} {fa : Env → R PyData} (hK : X.K = Z.K) (hg : Gl X "isinstance") (hm : X.mg "isinstance" = none) (hg2 : Gl X y) (hm2 : X.mg y = none) (hv2 : bootBuiltins y = some (.type T)) (ha : DE X Z W a fa)
    (hy : y ≠ "__name__" := by decide) (hyd : (y == ("__debug__" : Str)) = false := by decide)
    (he : starEach [a, .Name y p2] X.env = (false, eval a X.env) :: starEach [.Name y p2] X.env := by rfl) (he2 : starEach [.Name y p2] X.env = (false, eval (.Name y p2) X.env) :: starEach [] X.env := by rfl) (hpl : (backTo pos (starEach [.Name y p2] X.env)).any (·.1) = false := by rfl)
    (hb : bootBuiltins "isinstance" = some (.builtin "isinstance") := by decide +kernel) :
    DE X Z W (.Call (.Name "isinstance" p) [a, .Name y p2] [] pos) (eIsi T fa) := by
  have ht : PE X (.Name y p2) (tC (.ty T)) := pe_bltn hg2 hm2 hv2 rfl hy hyd
  refine PE_imp (pe_callB (CallR.or call_isiT call_isi) hg hm hb (pa_cons ha (pa_cons ht pa_nil he2) he) (by decide) (by decide) he hpl) fun σ H Q ⟨ρ, G, O, R, P⟩ => ?_
  refine t_bind R P fun d ρ1 v G1 O1 H1 e1 R1 S1 D1 P1 => ?_
  by_cases nt : ∀ ds, d ≠ .tuple ds
  · have hd : isiD T d = (kitB (tyN d) T).map .bool := by
      cases d with
      | tuple ds => exact absurd rfl (nt ds)
      | _ => rfl
    rw [hd] at P1
    cases hk : kitB (tyN d) T with
    | none =>
      rw [hk] at P1
      exact P1.elim
    | some b =>
      rw [hk] at P1
      refine .inr ⟨v, .ty T, _, _, b, rfl, .ty T, ?_, kit_ty hk, P1 _ _ _ _ R1 Step.refl (.bl b)⟩
      rw [hK]
      exact dr_ty R1.gh D1 nt
  · cases D1 with
    | tup h1 h2 =>
      have P1 : Post Z W (fun G _ _ v d => Dr Z.K G v d) σ G1 O1 H1 Q (match (isiTup T).map PyData.bool with | some z => .ok z ρ1 | none => .bad) := P1
      cases hk : isiTup T with
      | none =>
        rw [hk] at P1
        exact P1.elim
      | some b =>
        rw [hk] at P1
        exact .inl ⟨_, _, T, b, rfl, h1.sqT R1.gh, hk, P1 _ _ _ _ R1 Step.refl (.bl b)⟩
    | _ => exact absurd (fun _ z => nomatch z) nt
end
end DL

/-! D4: what is walked. -/
namespace DL
open PySem PySem.Spec PyProof.Rows L2
/-! ### a list or a tuple -/
def SqB (b : Bool) (K : PySem.W.Frag) (H : Hp) (a : Addr) (xs : List V) : Prop := match b with
  | true => SqL K H a xs
  | false => SqT K H a xs
def SO (b : Bool) (h : Heap) (a : Addr) (its : Array Value) : Prop := match b with
  | true => h.IsList a its
  | false => h.IsTuple a its
def SI (b : Bool) (h : Heap) (it a : Addr) (i : Nat) : Prop := match b with
  | true => h.IsListIter it a i
  | false => h.IsTupleIter it a i
def SObj (b : Bool) (a : Addr) : Obj := match b with
  | true => { cls := .type "list_iterator", data := .fields #[.ref a, .int 0 0] }
  | false => { cls := .type "tuple_iterator", data := .fields #[.ref a, .int 0 0] }
theorem SI.obj {b : Bool} {h : Heap} {it a : Addr} {i : Nat} (x : SI b h it a i) : ∃ o, h.get? it = some o ∧ ∀ v, o.data ≠ .cell v := by
  cases b with
  | true =>
    obtain ⟨o, e, _, d⟩ := x
    exact ⟨o, e, fun v q => by rw [d] at q; cases q⟩
  | false =>
    obtain ⟨o, e, _, d⟩ := x
    exact ⟨o, e, fun v q => by rw [d] at q; cases q⟩
theorem SI.at {b : Bool} {h h' : Heap} {it a : Addr} {i : Nat} (x : SI b h it a i) (k : ∀ o, h.get? it = some o → h'.get? it = some o) : SI b h' it a i := by
  cases b with
  | true => exact Heap.IsListIter.at x k
  | false => exact Heap.IsTupleIter.at x k
theorem SI.new {b : Bool} {h : Heap} {it a : Addr} (e : h.get? it = some (SObj b a)) : SI b h it a 0 := by
  cases b with
  | true => exact ⟨_, e, rfl, rfl⟩
  | false => exact ⟨_, e, rfl, rfl⟩
theorem draws_seq {prog : Program} {w : World} {A : Around} (b : Bool) (hh : A.handled = none) (it a : Addr) (hne : a ≠ it) (items : Array Value) :
    Draws prog w A it [it, a] items.size (fun i v => items[i]? = some v) (fun i h => SI b h it a i ∧ SO b h a items) := by
  cases b with
  | true => exact Draws.list hh it a hne items
  | false => exact Draws.tuple hh it a hne items
theorem begins_seq (b : Bool) (a : Addr) (items : Array Value) : Begins (.ref a) (SObj b a) fun h => SO b h a items := by
  cases b with
  | true => exact begins_list a items
  | false => exact begins_tuple a items
theorem SO.lt {b : Bool} {h : Heap} {a : Addr} {its : Array Value} (x : SO b h a its) : a < h.objs.size := by
  cases b with
  | true => obtain ⟨o, e, _⟩ := x; exact Heap.lt_size e
  | false => obtain ⟨o, e, _⟩ := x; exact Heap.lt_size e
section
variable {X : Cx} {pins : List (Addr × Obj)} {σ : L2.St} {H : Hp} {s : Shared} {a : Addr} {xs ys : List V}
theorem Inv.seqB (I : Inv X pins σ H s) {b : Bool} (h : SqB b X.K H a xs) : ∃ its : List Value, Vals xs its ∧ SO b s.heap a its.toArray := by
  cases b with
  | true =>
    obtain ⟨its, r, p, _⟩ := I.list h
    exact ⟨its, r, p.isList⟩
  | false =>
    obtain ⟨its, r, p, _⟩ := I.tuple h
    exact ⟨its, r, show s.heap.IsTuple a its.toArray from p⟩
theorem Inv.seqB_inj (I : Inv X pins σ H s) {b : Bool} (h : SqB b X.K H a xs) (h' : SqB b X.K H a ys) : xs = ys := by
  cases b with
  | true => exact I.list_inj h h'
  | false => exact I.tuple_inj h h'
end
/-! ### zip of two -/
def It2 (K : PySem.W.Frag) (b1 b2 : Bool) (a1 a2 : Addr) : It :=
  ⟨fun i H => ∃ (xs ys : List V) (x y : V), SqB b1 K H a1 xs ∧ SqB b2 K H a2 ys ∧ xs[i]? = some x ∧ ys[i]? = some y,
    fun i H v H' => ∃ T x y o, v = .ref T ∧ H T = none ∧ o.dict = none ∧ H' = upd H T (.frz o (.tup [x, y])) ∧ (∀ xs, SqB b1 K H a1 xs → xs[i]? = some x) ∧ ∀ ys, SqB b2 K H a2 ys → ys[i]? = some y,
    fun i H => ∃ xs ys : List V, SqB b1 K H a1 xs ∧ SqB b2 K H a2 ys ∧ i ≤ xs.length ∧ i ≤ ys.length ∧ (i = xs.length ∨ i = ys.length)⟩
theorem turn_zip2 {P : Program} {w : World} {K : PySem.W.Frag} {elts : List Expr} {kk : Nat} {tpos : Pos} {b1 b2 : Bool} {a1 a2 z TI TO i1 i2 : Addr} (D : ZipSep2 z TI TO i1 i2 [i1, a1] [i2, a2]) (n1 : a1 ≠ i1) (n2 : a2 ≠ i2) :
    Turn P w K (.Tuple elts kk tpos) (It2 K b1 b2 a1 a2) [z, TI, TO, i1, i2] z (fun i h => IsZip h z TI TO .none ∧ IsTupOf2 h TI (.ref i1) (.ref i2) ∧ (∃ x y, IsTupOf2 h TO x y) ∧ SI b1 h i1 a1 i ∧ SI b2 h i2 a2 i) where
  mem := by simp
  obj := fun i h st c hc => by
    obtain ⟨hz, hTI, ⟨x, y, hTO⟩, h1, h2⟩ := st
    have e' : c = z ∨ c = TI ∨ c = TO ∨ c = i1 ∨ c = i2 := by simpa using hc
    rcases e' with q | q | q | q | q
    · rw [q]; exact ⟨_, hz, fun v q => nomatch q⟩
    · rw [q]; exact ⟨_, hTI, fun v q => nomatch q⟩
    · rw [q]; exact ⟨_, hTO, fun v q => nomatch q⟩
    · rw [q]; exact h1.obj
    · rw [q]; exact h2.obj
  keep := fun i h h' st k => by
    obtain ⟨hz, hTI, ⟨x, y, hTO⟩, h1, h2⟩ := st
    exact ⟨k z (by simp) _ hz, k TI (by simp) _ hTI, ⟨x, y, k TO (by simp) _ hTO⟩, h1.at fun o q => k i1 (by simp) o q, h2.at fun o q => k i2 (by simp) o q⟩
  item := by
    intro X hP hw hK hc i pins s σ H E I hf st hg
    subst hP hw hK
    obtain ⟨hz, hTI, ⟨x0, y0, hTO⟩, h1, h2⟩ := st
    obtain ⟨xs, ys, x, y, hqx, hqy, hx, hy⟩ := hg
    obtain ⟨its, rv, p⟩ := Inv.seqB I hqx
    obtain ⟨its2, rv2, p2⟩ := Inv.seqB I hqy
    obtain ⟨u, hu, ru⟩ := rv.get hx
    obtain ⟨u2, hu2, ru2⟩ := rv2.get hy
    have hzl : z < s.heap.objs.size := Heap.lt_size hz
    have hh : X.A.in1.handled = none := I.ok.hd hc
    have hu' : its.toArray[i]? = some u := by simpa using hu
    have hu2' : its2.toArray[i]? = some u2 := by simpa using hu2
    refine wpAny_pyNext_zipD2_item D (draws_seq b1 hh i1 a1 n1 its.toArray) (draws_seq b2 hh i2 a2 n2 its2.toArray) hz hTI hTO ⟨h1, p⟩ ⟨h2, p2⟩ (Array.getElem?_eq_some_iff.mp hu').1 (Array.getElem?_eq_some_iff.mp hu2').1 fun x1 x2 h' tk q1 q2 z' TO' h1' h2' hT hsz hk => ?_
    have e1 : x1 = u := Option.some.inj (q1.symm.trans hu')
    have e2 : x2 = u2 := Option.some.inj (q2.symm.trans hu2')
    subst e1 e2
    refine ⟨_, rfl, wpAny_letOwnedTupleGo_zip (s := { s with heap := h', toks := tk }) z' fun h'' z'' sb => ?_⟩
    have hT2 : h''.get? s.heap.objs.size = some { cls := .type "tuple", data := .seq #[x1, x2] } := (sb.2 _ (Nat.ne_of_gt hzl)).trans hT
    have new : ObjOk X.prog X.w (upd H s.heap.objs.size (.frz { cls := .type "tuple", data := .seq #[x1, x2] } (.tup [x, y]))) h'' s.heap.objs.size (.frz { cls := .type "tuple", data := .seq #[x1, x2] } (.tup [x, y])) :=
      ⟨hT2, by show 2 ≤ sizeLine; decide, [x1, x2], .cons ru (.cons ru2 .nil), ⟨_, hT2, rfl, _, rfl⟩⟩
    have I1 : Inv X pins σ (upd H s.heap.objs.size (.frz { cls := .type "tuple", data := .seq #[x1, x2] } (.tup [x, y]))) { s with heap := h'', toks := tk } :=
      I.turnedNew (t' := tk) (ch := [z, TI, TO, i1, i2]) (fun c o hb q => (sb.2 c (fun q' => hb (by simp [q']))).trans (hk c o (fun q' => hb (by simp [q'])) (fun q' => hb (by simp [q'])) (fun q' => hb (by simp [q'])) (fun q' => hb (by simp [q'])) q)) hf (Nat.le_refl _) new
    refine ⟨.ref s.heap.objs.size, _, I1, rfl, ⟨_, x, y, _, rfl, I.hok.fresh (Nat.le_refl _), rfl, rfl, fun l hl => by rw [Inv.seqB_inj I hl hqx]; exact hx, fun l hl => by rw [Inv.seqB_inj I hl hqy]; exact hy⟩, ⟨z'', ?_, ⟨x1, x2, ?_⟩, ?_, ?_⟩, fun c hcm => ?_⟩
    · exact (sb.2 _ D.TIz).trans (hk _ _ D.TIz D.TITO D.TIi1 D.TIi2 hTI)
    · exact (sb.2 _ D.TOz).trans TO'
    · exact h1'.1.at fun o q => (sb.2 _ (Ne.symm D.zi1)).trans q
    · exact h2'.1.at fun o q => (sb.2 _ (Ne.symm D.zi2)).trans q
    · have hlt : c < s.heap.objs.size := by
        have e' : c = z ∨ c = TI ∨ c = TO ∨ c = i1 ∨ c = i2 := by simpa using hcm
        rcases e' with q | q | q | q | q
        · rw [q]; exact hzl
        · rw [q]; exact Heap.lt_size hTI
        · rw [q]; exact Heap.lt_size hTO
        · rw [q]; obtain ⟨_, e1, _⟩ := h1.obj; exact Heap.lt_size e1
        · rw [q]; obtain ⟨_, e2, _⟩ := h2.obj; exact Heap.lt_size e2
      rw [upd_ne (Nat.ne_of_lt hlt)]
      exact (hf c hcm).1
  done := by
    intro X hP hw hK hc i pins s σ H E I hf st hg
    subst hP hw hK
    obtain ⟨hz, hTI, ⟨x0, y0, hTO⟩, h1, h2⟩ := st
    obtain ⟨xs, ys, hqx, hqy, l1, l2, hend⟩ := hg
    obtain ⟨its, rv, p⟩ := Inv.seqB I hqx
    obtain ⟨its2, rv2, p2⟩ := Inv.seqB I hqy
    have m1 : its.toArray.size = xs.length := by rw [List.size_toArray, ← rv.length]
    have m2 : its2.toArray.size = ys.length := by rw [List.size_toArray, ← rv2.length]
    have hh : X.A.in1.handled = none := I.ok.hd hc
    refine wpAny_pyNext_zipD2_end D (draws_seq b1 hh i1 a1 n1 its.toArray) (draws_seq b2 hh i2 a2 n2 its2.toArray) hz hTI hTO ⟨h1, p⟩ ⟨h2, p2⟩ (by omega) (by omega) (by omega) fun h' tk hk => ⟨rfl, I.turnedL (t' := tk) (ch := [z, TI, TO, i1, i2]) (fun c o hb q =>
      hk c o (fun q' => hb (by simp [q'])) (fun q' => hb (by simp [q'])) (fun q' => hb (by simp [q'])) (fun q' => hb (by simp [q'])) q) hf⟩
  self := fun A i s Q E st h => wpAny_pyIter_zip st.1 h
/-! ### zip of three -/
def It3 (K : PySem.W.Frag) (b1 b2 b3 : Bool) (a1 a2 a3 : Addr) : It :=
  ⟨fun i H => ∃ (xs ys zs : List V) (x y t : V), SqB b1 K H a1 xs ∧ SqB b2 K H a2 ys ∧ SqB b3 K H a3 zs ∧ xs[i]? = some x ∧ ys[i]? = some y ∧ zs[i]? = some t,
    fun i H v H' => ∃ T x y t o, v = .ref T ∧ H T = none ∧ o.dict = none ∧ H' = upd H T (.frz o (.tup [x, y, t])) ∧ (∀ xs, SqB b1 K H a1 xs → xs[i]? = some x) ∧ (∀ ys, SqB b2 K H a2 ys → ys[i]? = some y) ∧ ∀ zs, SqB b3 K H a3 zs → zs[i]? = some t,
    fun i H => ∃ xs ys zs : List V, SqB b1 K H a1 xs ∧ SqB b2 K H a2 ys ∧ SqB b3 K H a3 zs ∧ i ≤ xs.length ∧ i ≤ ys.length ∧ i ≤ zs.length ∧ (i = xs.length ∨ i = ys.length ∨ i = zs.length)⟩
theorem turn_zip3 {P : Program} {w : World} {K : PySem.W.Frag} {elts : List Expr} {kk : Nat} {tpos : Pos} {b1 b2 b3 : Bool} {a1 a2 a3 z TI TO i1 i2 i3 : Addr} (D : ZipSep3 z TI TO i1 i2 i3 [i1, a1] [i2, a2] [i3, a3]) (n1 : a1 ≠ i1) (n2 : a2 ≠ i2) (n3 : a3 ≠ i3) :
    Turn P w K (.Tuple elts kk tpos) (It3 K b1 b2 b3 a1 a2 a3) [z, TI, TO, i1, i2, i3] z (fun i h => IsZip h z TI TO .none ∧ IsTupOf3 h TI (.ref i1) (.ref i2) (.ref i3) ∧ (∃ x y t, IsTupOf3 h TO x y t) ∧ SI b1 h i1 a1 i ∧ SI b2 h i2 a2 i ∧ SI b3 h i3 a3 i) where
  mem := by simp
  obj := fun i h st c hc => by
    obtain ⟨hz, hTI, ⟨x, y, t, hTO⟩, h1, h2, h3⟩ := st
    have e' : c = z ∨ c = TI ∨ c = TO ∨ c = i1 ∨ c = i2 ∨ c = i3 := by simpa using hc
    rcases e' with q | q | q | q | q | q
    · rw [q]; exact ⟨_, hz, fun v q => nomatch q⟩
    · rw [q]; exact ⟨_, hTI, fun v q => nomatch q⟩
    · rw [q]; exact ⟨_, hTO, fun v q => nomatch q⟩
    · rw [q]; exact h1.obj
    · rw [q]; exact h2.obj
    · rw [q]; exact h3.obj
  keep := fun i h h' st k => by
    obtain ⟨hz, hTI, ⟨x, y, t, hTO⟩, h1, h2, h3⟩ := st
    exact ⟨k z (by simp) _ hz, k TI (by simp) _ hTI, ⟨x, y, t, k TO (by simp) _ hTO⟩, h1.at fun o q => k i1 (by simp) o q, h2.at fun o q => k i2 (by simp) o q, h3.at fun o q => k i3 (by simp) o q⟩
  item := by
    intro X hP hw hK hc i pins s σ H E I hf st hg
    subst hP hw hK
    obtain ⟨hz, hTI, ⟨x0, y0, t0, hTO⟩, h1, h2, h3⟩ := st
    obtain ⟨xs, ys, zs, x, y, t, hqx, hqy, hqz, hx, hy, ht⟩ := hg
    obtain ⟨its, rv, p⟩ := Inv.seqB I hqx
    obtain ⟨its2, rv2, p2⟩ := Inv.seqB I hqy
    obtain ⟨its3, rv3, p3⟩ := Inv.seqB I hqz
    obtain ⟨u, hu, ru⟩ := rv.get hx
    obtain ⟨u2, hu2, ru2⟩ := rv2.get hy
    obtain ⟨u3, hu3, ru3⟩ := rv3.get ht
    have hzl : z < s.heap.objs.size := Heap.lt_size hz
    have hh : X.A.in1.handled = none := I.ok.hd hc
    have hu' : its.toArray[i]? = some u := by simpa using hu
    have hu2' : its2.toArray[i]? = some u2 := by simpa using hu2
    have hu3' : its3.toArray[i]? = some u3 := by simpa using hu3
    refine wpAny_pyNext_zipD3_item D (draws_seq b1 hh i1 a1 n1 its.toArray) (draws_seq b2 hh i2 a2 n2 its2.toArray) (draws_seq b3 hh i3 a3 n3 its3.toArray) hz hTI hTO ⟨h1, p⟩ ⟨h2, p2⟩ ⟨h3, p3⟩ (Array.getElem?_eq_some_iff.mp hu').1 (Array.getElem?_eq_some_iff.mp hu2').1 (Array.getElem?_eq_some_iff.mp hu3').1 fun x1 x2 x3 h' tk q1 q2 q3 z' TO' h1' h2' h3' hT hsz hk => ?_
    have e1 : x1 = u := Option.some.inj (q1.symm.trans hu')
    have e2 : x2 = u2 := Option.some.inj (q2.symm.trans hu2')
    have e3 : x3 = u3 := Option.some.inj (q3.symm.trans hu3')
    subst e1 e2 e3
    refine ⟨_, rfl, wpAny_letOwnedTupleGo_zip (s := { s with heap := h', toks := tk }) z' fun h'' z'' sb => ?_⟩
    have hT2 : h''.get? s.heap.objs.size = some { cls := .type "tuple", data := .seq #[x1, x2, x3] } := (sb.2 _ (Nat.ne_of_gt hzl)).trans hT
    have new : ObjOk X.prog X.w (upd H s.heap.objs.size (.frz { cls := .type "tuple", data := .seq #[x1, x2, x3] } (.tup [x, y, t]))) h'' s.heap.objs.size (.frz { cls := .type "tuple", data := .seq #[x1, x2, x3] } (.tup [x, y, t])) :=
      ⟨hT2, by show 3 ≤ sizeLine; decide, [x1, x2, x3], .cons ru (.cons ru2 (.cons ru3 .nil)), ⟨_, hT2, rfl, _, rfl⟩⟩
    have I1 : Inv X pins σ (upd H s.heap.objs.size (.frz { cls := .type "tuple", data := .seq #[x1, x2, x3] } (.tup [x, y, t]))) { s with heap := h'', toks := tk } :=
      I.turnedNew (t' := tk) (ch := [z, TI, TO, i1, i2, i3]) (fun c o hb q => (sb.2 c (fun q' => hb (by simp [q']))).trans (hk c o (fun q' => hb (by simp [q'])) (fun q' => hb (by simp [q'])) (fun q' => hb (by simp [q'])) (fun q' => hb (by simp [q'])) (fun q' => hb (by simp [q'])) q)) hf (Nat.le_refl _) new
    refine ⟨.ref s.heap.objs.size, _, I1, rfl, ⟨_, x, y, t, _, rfl, I.hok.fresh (Nat.le_refl _), rfl, rfl, fun l hl => by rw [Inv.seqB_inj I hl hqx]; exact hx, fun l hl => by rw [Inv.seqB_inj I hl hqy]; exact hy, fun l hl => by rw [Inv.seqB_inj I hl hqz]; exact ht⟩, ⟨z'', ?_, ⟨x1, x2, x3, ?_⟩, ?_, ?_, ?_⟩, fun c hcm => ?_⟩
    · exact (sb.2 _ D.TIz).trans (hk _ _ D.TIz D.TITO D.TIi1 D.TIi2 D.TIi3 hTI)
    · exact (sb.2 _ D.TOz).trans TO'
    · exact h1'.1.at fun o q => (sb.2 _ (Ne.symm D.zi1)).trans q
    · exact h2'.1.at fun o q => (sb.2 _ (Ne.symm D.zi2)).trans q
    · exact h3'.1.at fun o q => (sb.2 _ (Ne.symm D.zi3)).trans q
    · have hlt : c < s.heap.objs.size := by
        have e' : c = z ∨ c = TI ∨ c = TO ∨ c = i1 ∨ c = i2 ∨ c = i3 := by simpa using hcm
        rcases e' with q | q | q | q | q | q
        · rw [q]; exact hzl
        · rw [q]; exact Heap.lt_size hTI
        · rw [q]; exact Heap.lt_size hTO
        · rw [q]; obtain ⟨_, e1, _⟩ := h1.obj; exact Heap.lt_size e1
        · rw [q]; obtain ⟨_, e2, _⟩ := h2.obj; exact Heap.lt_size e2
        · rw [q]; obtain ⟨_, e3, _⟩ := h3.obj; exact Heap.lt_size e3
      rw [upd_ne (Nat.ne_of_lt hlt)]
      exact (hf c hcm).1
  done := by
    intro X hP hw hK hc i pins s σ H E I hf st hg
    subst hP hw hK
    obtain ⟨hz, hTI, ⟨x0, y0, t0, hTO⟩, h1, h2, h3⟩ := st
    obtain ⟨xs, ys, zs, hqx, hqy, hqz, l1, l2, l3, hend⟩ := hg
    obtain ⟨its, rv, p⟩ := Inv.seqB I hqx
    obtain ⟨its2, rv2, p2⟩ := Inv.seqB I hqy
    obtain ⟨its3, rv3, p3⟩ := Inv.seqB I hqz
    have m1 : its.toArray.size = xs.length := by rw [List.size_toArray, ← rv.length]
    have m2 : its2.toArray.size = ys.length := by rw [List.size_toArray, ← rv2.length]
    have m3 : its3.toArray.size = zs.length := by rw [List.size_toArray, ← rv3.length]
    have hh : X.A.in1.handled = none := I.ok.hd hc
    refine wpAny_pyNext_zipD3_end D (draws_seq b1 hh i1 a1 n1 its.toArray) (draws_seq b2 hh i2 a2 n2 its2.toArray) (draws_seq b3 hh i3 a3 n3 its3.toArray) hz hTI hTO ⟨h1, p⟩ ⟨h2, p2⟩ ⟨h3, p3⟩ (by omega) (by omega) (by omega) (by omega) fun h' tk hk => ⟨rfl, I.turnedL (t' := tk) (ch := [z, TI, TO, i1, i2, i3]) (fun c o hb q =>
      hk c o (fun q' => hb (by simp [q'])) (fun q' => hb (by simp [q'])) (fun q' => hb (by simp [q'])) (fun q' => hb (by simp [q'])) (fun q' => hb (by simp [q'])) q) hf⟩
  self := fun A i s Q E st h => wpAny_pyIter_zip st.1 h
/-! ### enumerate of a list -/
def ItE (K : PySem.W.Frag) (a : Addr) : It :=
  ⟨fun i H => ∃ (xs : List V) (x : V), SqL K H a xs ∧ xs[i]? = some x, fun i H v H' => ∃ T x o, v = .ref T ∧ H T = none ∧ o.dict = none ∧ H' = upd H T (.frz o (.tup [.int (i : Nat), x])) ∧ ∀ xs, SqL K H a xs → xs[i]? = some x, fun i H => ∃ xs : List V, SqL K H a xs ∧ xs.length ≤ i⟩
theorem turn_enumF {P : Program} {w : World} {K : PySem.W.Frag} {elts : List Expr} {kk : Nat} {tpos : Pos} (a e it : Addr) :
    Turn P w K (.Tuple elts kk tpos) (ItE K a) [e, it] e (fun i h => (∃ old, IsEnum h e it ((i : Nat) : Int) old) ∧ h.IsListIter it a i ∧ e ≠ it) where
  mem := by simp
  obj := fun i h st b hb => (turn_enum (P := P) (w := w) (K := K) (elts := elts) (kk := kk) (tpos := tpos) a e it).obj i h st b hb
  keep := fun i h h' st k => (turn_enum (P := P) (w := w) (K := K) (elts := elts) (kk := kk) (tpos := tpos) a e it).keep i h h' st k
  item := by
    intro X hP hw hK hc i pins s σ H E I hf st hg
    subst hP hw hK
    obtain ⟨⟨old, he⟩, hit, hne⟩ := st
    obtain ⟨xs, x, hq, hx⟩ := hg
    obtain ⟨its, rv, p, hz⟩ := I.list hq
    obtain ⟨u, hu, ru⟩ := rv.get hx
    have hel : e < s.heap.objs.size := Heap.lt_size he
    have hil : it < s.heap.objs.size := by obtain ⟨_, q, _⟩ := hit; exact Heap.lt_size q
    refine wpAny_pyNext_enum_item he hit p.isList (x := u) (by simpa using hu) hne fun h' ho hit' hT hsz hk => ?_
    refine ⟨_, rfl, wpAny_letOwnedTupleGo_enum (s := { s with heap := h', toks := s.toks + 1 }) ho fun h'' he' sb => ?_⟩
    have hT2 : h''.get? s.heap.objs.size = some { cls := .type "tuple", data := .seq #[.int i s.toks, u] } := (sb.2 _ (Nat.ne_of_gt hel)).trans hT
    have new : ObjOk X.prog X.w (upd H s.heap.objs.size (.frz { cls := .type "tuple", data := .seq #[.int i s.toks, u] } (.tup [.int (i : Nat), x]))) h'' s.heap.objs.size (.frz { cls := .type "tuple", data := .seq #[.int i s.toks, u] } (.tup [.int (i : Nat), x])) :=
      ⟨hT2, by show 2 ≤ sizeLine; decide, [.int i s.toks, u], .cons ⟨_, rfl⟩ (.cons ru .nil), ⟨_, hT2, rfl, _, rfl⟩⟩
    have I1 : Inv X pins σ _ { s with heap := h'', toks := s.toks + 1 } :=
      I.turnedNew (ch := [e, it]) (fun b ob hb q => (sb.2 b (fun z => hb (by simp [z]))).trans (hk b ob (fun z => hb (by simp [z])) (fun z => hb (by simp [z])) q)) hf (Nat.le_refl _) new
    refine ⟨.ref s.heap.objs.size, _, I1, rfl, ⟨_, x, _, rfl, I.hok.fresh (Nat.le_refl _), rfl, rfl, fun ys hy => by rw [I.list_inj hy hq]; exact hx⟩, ⟨⟨u, ?_⟩, hit'.at fun o q => (sb.2 it (Ne.symm hne)).trans q, hne⟩, fun b hb => ?_⟩
    · have e1 : ((i + 1 : Nat) : Int) = (i : Int) + 1 := by omega
      rw [e1]; exact he'
    · have hb' : b < s.heap.objs.size := by
        have e' : b = e ∨ b = it := by simpa using hb
        rcases e' with z | z
        · rw [z]; exact hel
        · rw [z]; exact hil
      rw [upd_ne (Nat.ne_of_lt hb')]
      exact (hf b hb).1
  done := (turn_enum (P := P) (w := w) (K := K) (elts := elts) (kk := kk) (tpos := tpos) a e it).done
  self := (turn_enum (P := P) (w := w) (K := K) (elts := elts) (kk := kk) (tpos := tpos) a e it).self
def iEnumF (K : PySem.W.Frag) (ta : TA) : TI := fun σ H R => ta σ H fun vs H1 => ∃ a xs, vs = [.ref a] ∧ SqL K H1 a xs ∧ R (ItE K a) H1
theorem pi_enumF {X : Cx} {e : Expr} {ta : TA} {p pos tpos : Pos} {elts : List Expr} {kk : Nat} (hg : Gl X "enumerate") (hm : X.mg "enumerate" = none) (ha : PA X [e] ta) (hs : starEach [e] X.env = [(false, eval e X.env)] := by rfl) :
    PI X (.Tuple elts kk tpos) (.Call (.Name "enumerate" p) [e] [] pos) (iEnumF X.K ta) := by
  refine ⟨fun pins s σ H R I h => ?_⟩
  refine Call_ (ld_blt I hg hm boot_enumerate (PyProof.Rows.callWith_type1 (thn (ha.run pos pins s σ H _ I h) fun us s1 ⟨vs, H1, I1, r1, q1⟩ => ?_) hs rfl))
  obtain ⟨a, xs, ex, hq, q⟩ := q1
  subst ex
  cases r1 with
  | cons r rr =>
    cases rr
    cases r
    obtain ⟨its, rv, p', hz⟩ := I1.list hq
    refine call_enumerate_list p'.isList fun h' he hit hsz hk => wpAny_pyIter_enum he ?_
    have I2 : Inv X pins σ H1 { s1 with heap := h' } := I1.kept (t' := s1.toks) hk
    refine ⟨s1.heap.objs.size + 1, [s1.heap.objs.size + 1, s1.heap.objs.size], _, _, H1, rfl, I2, turn_enumF a (s1.heap.objs.size + 1) s1.heap.objs.size, ⟨⟨.none, he⟩, hit, Nat.succ_ne_self _⟩, fun b hb => ?_, q⟩
    have e' : b = s1.heap.objs.size + 1 ∨ b = s1.heap.objs.size := by simpa using hb
    have hle : s1.heap.objs.size ≤ b := by
      rcases e' with z | z
      · rw [z]; exact Nat.le_add_right _ _
      · rw [z]; exact Nat.le_refl _
    exact I1.fpOk hle (I1.hok.fresh hle)
/-! ### zip begins -/
def iZ2 (K : PySem.W.Frag) (ta : TA) : TI := fun σ H R => ta σ H fun vs H1 => ∃ b1 b2 a1 a2 xs ys, vs = [.ref a1, .ref a2] ∧ SqB b1 K H1 a1 xs ∧ SqB b2 K H1 a2 ys ∧ R (It2 K b1 b2 a1 a2) H1
def iZ3 (K : PySem.W.Frag) (ta : TA) : TI := fun σ H R => ta σ H fun vs H1 => ∃ b1 b2 b3 a1 a2 a3 xs ys zs, vs = [.ref a1, .ref a2, .ref a3] ∧ SqB b1 K H1 a1 xs ∧ SqB b2 K H1 a2 ys ∧ SqB b3 K H1 a3 zs ∧ R (It3 K b1 b2 b3 a1 a2 a3) H1
section
variable {X : Cx}
theorem pi_zip2 {e e2 : Expr} {ta : TA} {p pos tpos : Pos} {elts : List Expr} {kk : Nat} (hg : Gl X "zip") (hm : X.mg "zip" = none) (ha : PA X [e, e2] ta)
    (hs : starEach [e, e2] X.env = (false, eval e X.env) :: starEach [e2] X.env := by rfl) (hpl : (backTo pos (starEach [e2] X.env)).any (·.1) = false := by rfl) :
    PI X (.Tuple elts kk tpos) (.Call (.Name "zip" p) [e, e2] [] pos) (iZ2 X.K ta) := by
  refine ⟨fun pins s σ H R I h => ?_⟩
  refine Call_ (ld_blt I hg hm PyProof.Rows.boot_zip (PyProof.Rows.callWith_type1 (thn (ha.run pos pins s σ H _ I h) fun us s1 ⟨vs, H1, I1, r1, q1⟩ => ?_) hs hpl))
  obtain ⟨b1, b2, a1, a2, xs, ys, ex, hq1, hq2, q⟩ := q1
  subst ex
  cases r1 with
  | cons r rr =>
    cases rr with
    | cons r' rr =>
      cases rr
      cases r
      cases r'
      obtain ⟨its, rv, p1⟩ := Inv.seqB I1 hq1
      obtain ⟨its2, rv2, p2⟩ := Inv.seqB I1 hq2
      refine zip_begins2 (begins_seq b1 a1 its.toArray) (begins_seq b2 a2 its2.toArray) p1 p2 fun h' hz hTI hTO g1 g2 hsz hk => wpAny_pyIter_zip hz ?_
      have I2 : Inv X pins σ H1 { s1 with heap := h' } := I1.kept (t' := s1.toks) hk
      refine ⟨s1.heap.objs.size + 4, [s1.heap.objs.size + 4, s1.heap.objs.size + 2, s1.heap.objs.size + 3, s1.heap.objs.size, s1.heap.objs.size + 1], _, _, H1, rfl, I2, turn_zip2 (zip_sep2 (fp1 := [a1]) (fp2 := [a2]) (by simpa using p1.lt) (by simpa using p2.lt)) (Nat.ne_of_lt p1.lt) (Nat.ne_of_lt (Nat.lt_succ_of_lt p2.lt)), ⟨hz, hTI, ⟨_, _, hTO⟩, SI.new g1, SI.new g2⟩, fun c hcm => ?_, q⟩
      have hle : s1.heap.objs.size ≤ c := by
        have e' : c = s1.heap.objs.size + 4 ∨ c = s1.heap.objs.size + 2 ∨ c = s1.heap.objs.size + 3 ∨ c = s1.heap.objs.size ∨ c = s1.heap.objs.size + 1 := by simpa using hcm
        rcases e' with z | z | z | z | z <;> (rw [z]; first | exact Nat.le_refl _ | exact Nat.le_add_right _ _)
      exact I1.fpOk hle (I1.hok.fresh hle)
theorem pi_zip3 {e e2 e3 : Expr} {ta : TA} {p pos tpos : Pos} {elts : List Expr} {kk : Nat} (hg : Gl X "zip") (hm : X.mg "zip" = none) (ha : PA X [e, e2, e3] ta)
    (hs : starEach [e, e2, e3] X.env = (false, eval e X.env) :: starEach [e2, e3] X.env := by rfl) (hpl : (backTo pos (starEach [e2, e3] X.env)).any (·.1) = false := by rfl) :
    PI X (.Tuple elts kk tpos) (.Call (.Name "zip" p) [e, e2, e3] [] pos) (iZ3 X.K ta) := by
  refine ⟨fun pins s σ H R I h => ?_⟩
  refine Call_ (ld_blt I hg hm PyProof.Rows.boot_zip (PyProof.Rows.callWith_type1 (thn (ha.run pos pins s σ H _ I h) fun us s1 ⟨vs, H1, I1, r1, q1⟩ => ?_) hs hpl))
  obtain ⟨b1, b2, b3, a1, a2, a3, xs, ys, zs, ex, hq1, hq2, hq3, q⟩ := q1
  subst ex
  cases r1 with
  | cons r rr =>
    cases rr with
    | cons r' rr =>
      cases rr with
      | cons r'' rr =>
        cases rr
        cases r
        cases r'
        cases r''
        obtain ⟨its, rv, p1⟩ := Inv.seqB I1 hq1
        obtain ⟨its2, rv2, p2⟩ := Inv.seqB I1 hq2
        obtain ⟨its3, rv3, p3⟩ := Inv.seqB I1 hq3
        refine zip_begins3 (begins_seq b1 a1 its.toArray) (begins_seq b2 a2 its2.toArray) (begins_seq b3 a3 its3.toArray) p1 p2 p3 fun h' hz hTI hTO g1 g2 g3 hsz hk => wpAny_pyIter_zip hz ?_
        have I2 : Inv X pins σ H1 { s1 with heap := h' } := I1.kept (t' := s1.toks) hk
        refine ⟨s1.heap.objs.size + 5, [s1.heap.objs.size + 5, s1.heap.objs.size + 3, s1.heap.objs.size + 4, s1.heap.objs.size, s1.heap.objs.size + 1, s1.heap.objs.size + 2], _, _, H1, rfl, I2, turn_zip3 (zip_sep3 (fp1 := [a1]) (fp2 := [a2]) (fp3 := [a3]) (by simpa using p1.lt) (by simpa using p2.lt) (by simpa using p3.lt)) (Nat.ne_of_lt p1.lt) (Nat.ne_of_lt (Nat.lt_succ_of_lt p2.lt)) (Nat.ne_of_lt (Nat.lt_succ_of_lt (Nat.lt_succ_of_lt p3.lt))), ⟨hz, hTI, ⟨_, _, _, hTO⟩, SI.new g1, SI.new g2, SI.new g3⟩, fun c hcm => ?_, q⟩
        have hle : s1.heap.objs.size ≤ c := by
          have e' : c = s1.heap.objs.size + 5 ∨ c = s1.heap.objs.size + 3 ∨ c = s1.heap.objs.size + 4 ∨ c = s1.heap.objs.size ∨ c = s1.heap.objs.size + 1 ∨ c = s1.heap.objs.size + 2 := by simpa using hcm
          rcases e' with z | z | z | z | z | z <;> (rw [z]; first | exact Nat.le_refl _ | exact Nat.le_add_right _ _)
        exact I1.fpOk hle (I1.hok.fresh hle)
end
end DL

/-! D5: walks over data. -/
namespace DL
open PySem PySem.Spec PyProof.Rows L2
/-- a walk over data -/
def ItD (K : PySem.W.Frag) (J : It) (G : Hp) (ds : List PyData) : Prop := ∀ H, Same G H →
  (∀ i, i < ds.length → J.go i H) ∧ (∀ i x H', i < ds.length → J.yld i H x H' → Same H H' ∧ ∃ d, ds[i]? = some d ∧ Dr K (grow G H H') x d) ∧ J.stop ds.length H
theorem grow_mono {G G2 H H' : Hp} (e : Same G G2) (g : Same G2 H) : Same (grow G H H') (grow G2 H H') := fun b o h => by
  rcases grow_cases h with q | ⟨q1, q2, q3⟩
  · exact grow_old (e _ _ q)
  · rw [grow_new g q2]
    exact q3
theorem ItD.mono {K : PySem.W.Frag} {J : It} {G G2 : Hp} {ds : List PyData} (h : ItD K J G ds) (e : Same G G2) : ItD K J G2 ds := fun H s => by
  obtain ⟨h1, h2, h3⟩ := h H (e.trans s)
  refine ⟨h1, fun i x H' hi y => ?_, h3⟩
  obtain ⟨q1, d, q2, q3⟩ := h2 i x H' hi y
  exact ⟨q1, d, q2, q3.mono (grow_mono e s)⟩
abbrev DI (X : Cx) (Z : Pm) (W : WX) (tg e : Expr) (f : Env → R (List PyData)) : Prop := PI X tg e (T_ Z W (fun G _ _ (J : It) ds => ItD Z.K J G ds) f)
section
variable {X : Cx} {Z : Pm} {W : WX} {K : PySem.W.Frag} {G : Hp}
theorem drl_at {xs : List V} {ds : List PyData} (h : DrL K G xs ds) {i : Nat} (hi : i < ds.length) : ∃ x d, xs[i]? = some x ∧ ds[i]? = some d ∧ Dr K G x d := by
  obtain ⟨v, e, r⟩ := h.getD (List.getElem?_eq_getElem hi)
  exact ⟨v, _, e, List.getElem?_eq_getElem hi, r⟩
/-- a list or a tuple -/
def Itb (b : Bool) (K : PySem.W.Frag) (a : Addr) : It := match b with
  | true => Itl K a
  | false => Itt K a
theorem itd_b {b : Bool} {a : Addr} {xs : List V} {ds : List PyData} (h : ∀ H, Same G H → SqB b K H a xs) (r : DrL K G xs ds) : ItD K (Itb b K a) G ds := fun H s => by
  have q := h H s
  cases b with
  | true =>
    refine ⟨fun i hi => ?_, fun i x H' hi y => ?_, xs, q, Nat.le_of_eq r.len⟩
    · obtain ⟨x, d, e1, _, _⟩ := drl_at r hi
      exact ⟨xs, x, q, e1⟩
    · obtain ⟨x', d, e1, e2, r1⟩ := drl_at r hi
      obtain ⟨rfl, y⟩ := y
      have e3 := y xs q
      rw [e1] at e3
      cases e3
      exact ⟨Same.refl _, d, e2, r1.mono grow_same⟩
  | false =>
    refine ⟨fun i hi => ?_, fun i x H' hi y => ?_, xs, q, Nat.le_of_eq r.len⟩
    · obtain ⟨x, d, e1, _, _⟩ := drl_at r hi
      exact ⟨xs, x, q, e1⟩
    · obtain ⟨x', d, e1, e2, r1⟩ := drl_at r hi
      obtain ⟨rfl, y⟩ := y
      have e3 := y xs q
      rw [e1] at e3
      cases e3
      exact ⟨Same.refl _, d, e2, r1.mono grow_same⟩
def seqD : PyData → Option (List PyData)
  | .list ds => some ds
  | .tuple ds => some ds
  | _ => none
theorem dr_seq {v : V} {d : PyData} {ds : List PyData} (h : Dr K G v d) (e : seqD d = some ds) : ∃ b a xs, v = .ref a ∧ (∀ H, Same G H → SqB b K H a xs) ∧ DrL K G xs ds := by
  cases h with
  | lst h1 h2 =>
    cases e
    exact ⟨true, _, _, rfl, fun H s => same_l s h1, h2⟩
  | tup h1 h2 =>
    cases e
    exact ⟨false, _, _, rfl, fun H s => h1.sqT s, h2⟩
  | _ => cases e
/-- what is walked: a list, a tuple, a dict's keys, a text's signs -/
def iterD : PyData → Option (List PyData)
  | .list ds => some ds
  | .tuple ds => some ds
  | .dict kvs => some (kvs.map (·.1))
  | .str z => some (z.cps.toList.map fun c => .str ⟨#[c]⟩)
  | _ => none
def iAny (K : PySem.W.Frag) (te : TE) : TI := fun σ H R => te σ H fun x H1 => (∃ b a xs, x = .ref a ∧ SqB b K H1 a xs ∧ R (Itb b K a) H1) ∨ (∃ a o kvs, x = .ref a ∧ H1 a = some (.frz o (.dK kvs)) ∧ R (Itk a o kvs) H1) ∨ ∃ y, x = .str y ∧ R (Its y) H1
theorem pi_any {tg l : Expr} {tl : TE} (hl : PE X l tl) : PI X tg l (iAny X.K tl) := by
  refine ⟨fun pins s σ H R I h => ?_⟩
  refine thn (hl.run pins s σ H _ I h) fun v s1 ⟨x, H1, I1, r1, q1⟩ => ?_
  have fr : ∀ b ∈ [s1.heap.objs.size], FpOk X pins H1 b := fun b hb => by
    have e : b = s1.heap.objs.size := by simpa using hb
    subst e
    exact I1.fpOk (Nat.le_refl _) (I1.hok.fresh (Nat.le_refl _))
  rcases q1 with ⟨b, a, xs, e, hq, q⟩ | ⟨a, o, kvs, e, hd, q⟩ | ⟨y, e, q⟩
  · subst e
    cases r1
    cases b with
    | true =>
      obtain ⟨its, rv, p, hz⟩ := I1.list hq
      refine wpAny_pyIter_list p.isList ?_
      exact ⟨s1.heap.objs.size, [s1.heap.objs.size], _, _, H1, rfl, I1.kept (t' := s1.toks) fun b o e => Heap.get?_push_of_some _ e, turn_list a _, ⟨_, Heap.get?_push_size _ rfl, rfl, rfl⟩, fr, q⟩
    | false =>
      obtain ⟨its, rv, p, hz⟩ := I1.tuple hq
      refine wpAny_pyIter_tuple (show s1.heap.IsTuple a its.toArray from p) ?_
      exact ⟨s1.heap.objs.size, [s1.heap.objs.size], _, _, H1, rfl, I1.kept (t' := s1.toks) fun b o e => Heap.get?_push_of_some _ e, turn_tuple a _, ⟨_, Heap.get?_push_size _ rfl, rfl, rfl⟩, fr, q⟩
  · subst e
    cases r1
    obtain ⟨hs, hgd, hx, es, ep, vs, hdt, hsz, kv, hm⟩ := I1.frzK hd
    refine iter_keys hs hgd hx hdt (pi_one (tk := s1.toks) I1 _ (turn_keys _ hdt) ⟨_, Heap.get?_push_size _ rfl, rfl, ?_⟩ q)
    rw [hsz] <;> rfl
  · subst e
    obtain ⟨t, rfl⟩ := r1
    cases ha : y.cps.all (· < 128)
    · exact wpAny_pyIter_wide ha (pi_one (tk := s1.toks) I1 _ (turn_str _ y t "str_iterator" (.inr rfl)) ⟨_, Heap.get?_push_size _ rfl, rfl, rfl⟩ q)
    · exact wpAny_pyIter_ascii ha (pi_one (tk := s1.toks) I1 _ (turn_str _ y t "str_ascii_iterator" (.inl rfl)) ⟨_, Heap.get?_push_size _ rfl, rfl, rfl⟩ q)
theorem drk_key {kv : List (Key × V)} {kvs : List (PyData × PyData)} (h : DrK K G kv kvs) : ∀ {i : Nat} {k : Key} {v : V}, kv[i]? = some (k, v) → (kvs.map (·.1))[i]? = some (keyD k) := by
  intro i
  induction i generalizing kv kvs with
  | zero =>
    intro k v e
    cases h with
    | nil => simp at e
    | cons a b =>
      simp at e
      simp [e.1]
  | succ i ih =>
    intro k v e
    cases h with
    | nil => simp at e
    | cons a b => simpa using ih b (by simpa using e)
theorem dr_kV (k : Key) : Dr K G (kV k) (keyD k) := by
  cases k with
  | inl i => exact .int i
  | inr s => exact .str s
def iOf (g : PyData → Option (List PyData)) (f : Env → R PyData) : Env → R (List PyData) := fun ρ => (f ρ).bind fun d ρ1 => match g d with
  | some ds => .ok ds ρ1
  | none => .bad
theorem di_any {tg e : Expr} {f : Env → R PyData} (hK : X.K = Z.K) (h : DE X Z W e f) : DI X Z W tg e (iOf iterD f) := by
  refine PI_imp (pi_any h) fun σ H Q ⟨ρ, G, O, R, P⟩ => ?_
  refine t_bind R P fun d ρ1 v G1 O1 H1 e1 R1 S1 D1 P1 => ?_
  rw [hK]
  cases D1 with
  | lst h1 h2 =>
    exact .inl ⟨true, _, _, rfl, same_l R1.gh h1, P1 _ _ _ _ R1 Step.refl (itd_b (b := true) (fun H s => same_l s h1) h2)⟩
  | tup h1 h2 =>
    exact .inl ⟨false, _, _, rfl, h1.sqT R1.gh, P1 _ _ _ _ R1 Step.refl (itd_b (b := false) (fun H s => h1.sqT s) h2)⟩
  | dK h1 h2 =>
    refine .inr (.inl ⟨_, _, _, rfl, R1.gh _ _ h1, P1 _ _ _ _ R1 Step.refl fun H2 s => ?_⟩)
    have hl := h2.len
    refine ⟨fun i hi => ⟨s _ _ h1, ?_⟩, fun i x H' hi y => ?_, s _ _ h1, ?_⟩
    · rw [List.length_map] at hi
      omega
    · obtain ⟨rfl, k, v, e, rfl⟩ := y
      exact ⟨Same.refl _, _, drk_key h2 e, dr_kV k⟩
    · rw [List.length_map]
      omega
  | str z =>
    refine .inr (.inr ⟨_, rfl, P1 _ _ _ _ R1 Step.refl fun H2 s => ⟨fun i hi => ?_, fun i x H' hi y => ?_, ?_⟩⟩)
    · have : i < z.cps.toList.length := by simpa using hi
      show i < z.cps.size
      simpa using this
    · obtain ⟨rfl, c, e, rfl⟩ := y
      refine ⟨Same.refl _, .str ⟨#[c]⟩, ?_, .str _⟩
      rw [List.getElem?_map, Array.getElem?_toList, e]
      rfl
    · show z.cps.size ≤ _
      rw [List.length_map, Array.length_toList]
      exact Nat.le_refl _
  | _ => exact P1.elim
/-! ### range -/
def rangeD (lo : Int) (n : Nat) : List PyData := (List.range n).map fun i => .int (lo + (i : Nat))
theorem itd_r (lo : Int) (n : Nat) : ItD K (Itr lo n) G (rangeD lo n) := fun H s => by
  have hl : (rangeD lo n).length = n := by simp [rangeD]
  rw [hl]
  refine ⟨fun i hi => hi, fun i x H' hi y => ?_, Nat.le_refl _⟩
  obtain ⟨rfl, rfl⟩ := y
  refine ⟨Same.refl _, _, ?_, .int _⟩
  simp [rangeD, hi]
def range1 : List PyData → Option (List PyData)
  | [.int j] => if smallI j = true then some (rangeD 0 j.toNat) else none
  | _ => none
def range2 : List PyData → Option (List PyData)
  | [.int i, .int j] => if smallI i = true ∧ smallI j = true then some (rangeD i (j - i).toNat) else none
  | _ => none
def iArgs (g : List PyData → Option (List PyData)) (f : Env → R (List PyData)) : Env → R (List PyData) := fun ρ => (f ρ).bind fun d ρ1 => match g d with
  | some ds => .ok ds ρ1
  | none => .bad
theorem drl_int {i : Int} {v : V} (h : Dr K G v (.int i)) : v = .int i := by
  cases h
  rfl
theorem di_range1 {tg e : Expr} {f : Env → R (List PyData)} {p pos : Pos} (hg : Gl X "range") (hm : X.mg "range" = none) (h : DAs X Z W [e] f) (hs : starEach [e] X.env = [(false, eval e X.env)] := by rfl) : DI X Z W tg (.Call (.Name "range" p) [e] [] pos) (iArgs range1 f) := by
  refine PI_imp (pi_range1 hg hm h hs) fun σ H Q ⟨ρ, G, O, R, P⟩ => ?_
  refine t_bind R P fun ds ρ1 vs G1 O1 H1 e1 R1 S1 D1 P1 => ?_
  cases hr : range1 ds with
  | none =>
    rw [hr] at P1
    exact P1.elim
  | some rs =>
    rw [hr] at P1
    unfold range1 at hr
    split at hr
    · rename_i j
      obtain ⟨c0, rfl⟩ := ite_some hr
      obtain ⟨c1, c2⟩ := smallI_iff.mp c0
      obtain ⟨v, rfl, r⟩ := drl_one D1.1
      cases r
      exact ⟨j, rfl, by omega, by omega, P1 _ _ _ _ R1 Step.refl (itd_r 0 _)⟩
    · cases hr
theorem di_range2 {tg e e2 : Expr} {f : Env → R (List PyData)} {p pos : Pos} (hg : Gl X "range") (hm : X.mg "range" = none) (h : DAs X Z W [e, e2] f) (hs : starEach [e, e2] X.env = [(false, eval e X.env), (false, eval e2 X.env)] := by rfl) (hs2 : starEach [e2] X.env = [(false, eval e2 X.env)] := by rfl) :
    DI X Z W tg (.Call (.Name "range" p) [e, e2] [] pos) (iArgs range2 f) := by
  refine PI_imp (pi_range2 hg hm h hs hs2) fun σ H Q ⟨ρ, G, O, R, P⟩ => ?_
  refine t_bind R P fun ds ρ1 vs G1 O1 H1 e1 R1 S1 D1 P1 => ?_
  cases hr : range2 ds with
  | none =>
    rw [hr] at P1
    exact P1.elim
  | some rs =>
    rw [hr] at P1
    unfold range2 at hr
    split at hr
    · rename_i i j
      obtain ⟨⟨b1, b2⟩, rfl⟩ := ite_some hr
      obtain ⟨c1, c2⟩ := smallI_iff.mp b1
      obtain ⟨c3, c4⟩ := smallI_iff.mp b2
      obtain ⟨v, w, rfl, r, r2⟩ := drl_two D1.1
      cases r
      cases r2
      exact ⟨i, j, rfl, ⟨by omega, by omega, by omega, by omega⟩, P1 _ _ _ _ R1 Step.refl (itd_r i _)⟩
    · cases hr
/-! ### enumerate of a list -/
def enumD : Nat → List PyData → List PyData
  | _, [] => []
  | n, d :: r => .tuple [.int n, d] :: enumD (n + 1) r
theorem enumD_len : ∀ (ds : List PyData) (n : Nat), (enumD n ds).length = ds.length
  | [], _ => rfl
  | d :: r, n => congrArg (· + 1) (enumD_len r (n + 1))
theorem enumD_get : ∀ (ds : List PyData) (n i : Nat) (d : PyData), ds[i]? = some d → (enumD n ds)[i]? = some (.tuple [.int (n + i : Nat), d])
  | [], _, _, _, h => by simp at h
  | d :: r, n, 0, x, h => by
    simp at h
    subst h
    simp [enumD]
  | d :: r, n, i + 1, x, h => by
    have := enumD_get r (n + 1) i x (by simpa using h)
    rw [show n + (i + 1) = n + 1 + i by omega]
    simpa [enumD] using this
theorem itd_e {a : Addr} {xs : List V} {ds : List PyData} (h : ∀ H, Same G H → SqL K H a xs) (r : DrL K G xs ds) : ItD K (ItE K a) G (enumD 0 ds) := fun H s => by
  have q := h H s
  rw [enumD_len]
  refine ⟨fun i hi => ?_, fun i x H' hi y => ?_, xs, q, Nat.le_of_eq r.len⟩
  · obtain ⟨x, d, e1, _, _⟩ := drl_at r hi
    exact ⟨xs, x, q, e1⟩
  · obtain ⟨x', d, e1, e2, r1⟩ := drl_at r hi
    obtain ⟨T, x, o, rfl, hT, ho, rfl, y⟩ := y
    have e3 := y xs q
    rw [e1] at e3
    cases e3
    refine ⟨same_new hT, _, enumD_get ds 0 i d e2, .tup ⟨o, grow_at s hT, ho⟩ ?_⟩
    rw [Nat.zero_add]
    exact .cons (.int _) (.cons (r1.mono grow_same) .nil)
def enum1 : List PyData → Option (List PyData)
  | [.list ds] => some (enumD 0 ds)
  | _ => none
theorem di_enum {e : Expr} {f : Env → R (List PyData)} {p pos tpos : Pos} {elts : List Expr} {kk : Nat} (hK : X.K = Z.K) (hg : Gl X "enumerate") (hm : X.mg "enumerate" = none) (h : DAs X Z W [e] f) (hs : starEach [e] X.env = [(false, eval e X.env)] := by rfl) : DI X Z W (.Tuple elts kk tpos) (.Call (.Name "enumerate" p) [e] [] pos) (iArgs enum1 f) := by
  refine PI_imp (pi_enumF hg hm h hs) fun σ H Q ⟨ρ, G, O, R, P⟩ => ?_
  refine t_bind R P fun ds ρ1 vs G1 O1 H1 e1 R1 S1 D1 P1 => ?_
  cases hr : enum1 ds with
  | none =>
    rw [hr] at P1
    exact P1.elim
  | some rs =>
    rw [hr] at P1
    unfold enum1 at hr
    split at hr
    · cases hr
      obtain ⟨v, rfl, r⟩ := drl_one D1.1
      cases r with
      | lst h1 h2 =>
        rw [hK]
        exact ⟨_, _, rfl, same_l R1.gh h1, P1 _ _ _ _ R1 Step.refl (itd_e (fun H s => same_l s h1) h2)⟩
    · cases hr
/-! ### zip -/
def zip2T : List PyData → List PyData → List PyData
  | a :: r, b :: s => .tuple [a, b] :: zip2T r s
  | _, _ => []
def zip3T : List PyData → List PyData → List PyData → List PyData
  | a :: r, b :: s, c :: t => .tuple [a, b, c] :: zip3T r s t
  | _, _, _ => []
theorem zip2T_len : ∀ (a b : List PyData), (zip2T a b).length = min a.length b.length
  | [], _ => by simp [zip2T]
  | _ :: _, [] => by simp [zip2T]
  | _ :: r, _ :: s => by
    simp only [zip2T, List.length_cons, zip2T_len r s]
    omega
theorem zip3T_len : ∀ (a b c : List PyData), (zip3T a b c).length = min a.length (min b.length c.length)
  | [], _, _ => by simp [zip3T]
  | _ :: _, [], _ => by simp [zip3T]
  | _ :: _, _ :: _, [] => by simp [zip3T]
  | _ :: r, _ :: s, _ :: t => by
    simp only [zip3T, List.length_cons, zip3T_len r s t]
    omega
theorem zip2T_get : ∀ (a b : List PyData) (i : Nat) (x y : PyData), a[i]? = some x → b[i]? = some y → (zip2T a b)[i]? = some (.tuple [x, y])
  | [], _, _, _, _, h, _ => by simp at h
  | _ :: _, [], _, _, _, _, h => by simp at h
  | _ :: _, _ :: _, 0, _, _, h1, h2 => by
    simp at h1 h2
    simp [zip2T, h1, h2]
  | _ :: r, _ :: s, i + 1, x, y, h1, h2 => by simpa [zip2T] using zip2T_get r s i x y (by simpa using h1) (by simpa using h2)
theorem zip3T_get : ∀ (a b c : List PyData) (i : Nat) (x y z : PyData), a[i]? = some x → b[i]? = some y → c[i]? = some z → (zip3T a b c)[i]? = some (.tuple [x, y, z])
  | [], _, _, _, _, _, _, h, _, _ => by simp at h
  | _ :: _, [], _, _, _, _, _, _, h, _ => by simp at h
  | _ :: _, _ :: _, [], _, _, _, _, _, _, h => by simp at h
  | _ :: _, _ :: _, _ :: _, 0, _, _, _, h1, h2, h3 => by
    simp at h1 h2 h3
    simp [zip3T, h1, h2, h3]
  | _ :: r, _ :: s, _ :: t, i + 1, x, y, z, h1, h2, h3 => by simpa [zip3T] using zip3T_get r s t i x y z (by simpa using h1) (by simpa using h2) (by simpa using h3)
theorem itd_2 {b1 b2 : Bool} {a1 a2 : Addr} {xs ys : List V} {ds es : List PyData} (h1 : ∀ H, Same G H → SqB b1 K H a1 xs) (h2 : ∀ H, Same G H → SqB b2 K H a2 ys) (r1 : DrL K G xs ds) (r2 : DrL K G ys es) : ItD K (It2 K b1 b2 a1 a2) G (zip2T ds es) := fun H s => by
  have q1 := h1 H s
  have q2 := h2 H s
  have l1 := r1.len
  have l2 := r2.len
  rw [zip2T_len]
  refine ⟨fun i hi => ?_, fun i x H' hi y => ?_, xs, ys, q1, q2, ?_, ?_, ?_⟩
  · obtain ⟨x, d, e1, _, _⟩ := drl_at r1 (i := i) (by omega)
    obtain ⟨y, d, e2, _, _⟩ := drl_at r2 (i := i) (by omega)
    exact ⟨xs, ys, x, y, q1, q2, e1, e2⟩
  · obtain ⟨x', d, e1, f1, g1⟩ := drl_at r1 (i := i) (by omega)
    obtain ⟨y', e, e2, f2, g2⟩ := drl_at r2 (i := i) (by omega)
    obtain ⟨T, x, y, o, rfl, hT, ho, rfl, w1, w2⟩ := y
    have z1 := w1 xs q1
    have z2 := w2 ys q2
    rw [e1] at z1
    rw [e2] at z2
    cases z1
    cases z2
    exact ⟨same_new hT, _, zip2T_get ds es i d e f1 f2, .tup ⟨o, grow_at s hT, ho⟩ (.cons (g1.mono grow_same) (.cons (g2.mono grow_same) .nil))⟩
  · omega
  · omega
  · omega
theorem itd_3 {b1 b2 b3 : Bool} {a1 a2 a3 : Addr} {xs ys zs : List V} {ds es fs : List PyData} (h1 : ∀ H, Same G H → SqB b1 K H a1 xs) (h2 : ∀ H, Same G H → SqB b2 K H a2 ys) (h3 : ∀ H, Same G H → SqB b3 K H a3 zs) (r1 : DrL K G xs ds) (r2 : DrL K G ys es) (r3 : DrL K G zs fs) : ItD K (It3 K b1 b2 b3 a1 a2 a3) G (zip3T ds es fs) := fun H s => by
  have q1 := h1 H s
  have q2 := h2 H s
  have q3 := h3 H s
  have l1 := r1.len
  have l2 := r2.len
  have l3 := r3.len
  rw [zip3T_len]
  refine ⟨fun i hi => ?_, fun i x H' hi y => ?_, xs, ys, zs, q1, q2, q3, ?_, ?_, ?_, ?_⟩
  · obtain ⟨x, d, e1, _, _⟩ := drl_at r1 (i := i) (by omega)
    obtain ⟨y, d, e2, _, _⟩ := drl_at r2 (i := i) (by omega)
    obtain ⟨z, d, e3, _, _⟩ := drl_at r3 (i := i) (by omega)
    exact ⟨xs, ys, zs, x, y, z, q1, q2, q3, e1, e2, e3⟩
  · obtain ⟨x', d, e1, f1, g1⟩ := drl_at r1 (i := i) (by omega)
    obtain ⟨y', e, e2, f2, g2⟩ := drl_at r2 (i := i) (by omega)
    obtain ⟨z', f, e3, f3, g3⟩ := drl_at r3 (i := i) (by omega)
    obtain ⟨T, x, y, z, o, rfl, hT, ho, rfl, w1, w2, w3⟩ := y
    have z1 := w1 xs q1
    have z2 := w2 ys q2
    have z3 := w3 zs q3
    rw [e1] at z1
    rw [e2] at z2
    rw [e3] at z3
    cases z1
    cases z2
    cases z3
    exact ⟨same_new hT, _, zip3T_get ds es fs i d e f f1 f2 f3, .tup ⟨o, grow_at s hT, ho⟩ (.cons (g1.mono grow_same) (.cons (g2.mono grow_same) (.cons (g3.mono grow_same) .nil)))⟩
  · omega
  · omega
  · omega
  · omega
def zip2 : List PyData → Option (List PyData)
  | [a, b] => match seqD a, seqD b with
    | some x, some y => some (zip2T x y)
    | _, _ => none
  | _ => none
def zip3 : List PyData → Option (List PyData)
  | [a, b, c] => match seqD a, seqD b, seqD c with
    | some x, some y, some z => some (zip3T x y z)
    | _, _, _ => none
  | _ => none
theorem drl_three {vs : List V} {d e f : PyData} (h : DrL K G vs [d, e, f]) : ∃ v w u, vs = [v, w, u] ∧ Dr K G v d ∧ Dr K G w e ∧ Dr K G u f := by
  cases h with
  | cons a t =>
    obtain ⟨w, u, rfl, b, c⟩ := drl_two t
    exact ⟨_, _, _, rfl, a, b, c⟩
theorem di_zip2 {e e2 : Expr} {f : Env → R (List PyData)} {p pos tpos : Pos} {elts : List Expr} {kk : Nat} (hK : X.K = Z.K) (hg : Gl X "zip") (hm : X.mg "zip" = none) (h : DAs X Z W [e, e2] f)
    (hs : starEach [e, e2] X.env = (false, eval e X.env) :: starEach [e2] X.env := by rfl) (hpl : (backTo pos (starEach [e2] X.env)).any (·.1) = false := by rfl) : DI X Z W (.Tuple elts kk tpos) (.Call (.Name "zip" p) [e, e2] [] pos) (iArgs zip2 f) := by
  refine PI_imp (pi_zip2 hg hm h hs hpl) fun σ H Q ⟨ρ, G, O, R, P⟩ => ?_
  refine t_bind R P fun ds ρ1 vs G1 O1 H1 e1 R1 S1 D1 P1 => ?_
  cases hr : zip2 ds with
  | none =>
    rw [hr] at P1
    exact P1.elim
  | some rs =>
    rw [hr] at P1
    unfold zip2 at hr
    split at hr
    · split at hr
      · rename_i k1 k2
        cases hr
        obtain ⟨v, w, rfl, r1, r2⟩ := drl_two D1.1
        obtain ⟨b1, a1, xs, rfl, w1, l1⟩ := dr_seq r1 k1
        obtain ⟨b2, a2, ys, rfl, w2, l2⟩ := dr_seq r2 k2
        rw [hK]
        exact ⟨b1, b2, a1, a2, xs, ys, rfl, w1 _ R1.gh, w2 _ R1.gh, P1 _ _ _ _ R1 Step.refl (itd_2 w1 w2 l1 l2)⟩
      · cases hr
    · cases hr
theorem di_zip3 {e e2 e3 : Expr} {f : Env → R (List PyData)} {p pos tpos : Pos} {elts : List Expr} {kk : Nat} (hK : X.K = Z.K) (hg : Gl X "zip") (hm : X.mg "zip" = none) (h : DAs X Z W [e, e2, e3] f)
    (hs : starEach [e, e2, e3] X.env = (false, eval e X.env) :: starEach [e2, e3] X.env := by rfl) (hpl : (backTo pos (starEach [e2, e3] X.env)).any (·.1) = false := by rfl) : DI X Z W (.Tuple elts kk tpos) (.Call (.Name "zip" p) [e, e2, e3] [] pos) (iArgs zip3 f) := by
  refine PI_imp (pi_zip3 hg hm h hs hpl) fun σ H Q ⟨ρ, G, O, R, P⟩ => ?_
  refine t_bind R P fun ds ρ1 vs G1 O1 H1 e1 R1 S1 D1 P1 => ?_
  cases hr : zip3 ds with
  | none =>
    rw [hr] at P1
    exact P1.elim
  | some rs =>
    rw [hr] at P1
    unfold zip3 at hr
    split at hr
    · split at hr
      · rename_i k1 k2 k3
        cases hr
        obtain ⟨v, w, u, rfl, r1, r2, r3⟩ := drl_three D1.1
        obtain ⟨b1, a1, xs, rfl, w1, l1⟩ := dr_seq r1 k1
        obtain ⟨b2, a2, ys, rfl, w2, l2⟩ := dr_seq r2 k2
        obtain ⟨b3, a3, zs, rfl, w3, l3⟩ := dr_seq r3 k3
        rw [hK]
        exact ⟨b1, b2, b3, a1, a2, a3, xs, ys, zs, rfl, w1 _ R1.gh, w2 _ R1.gh, w3 _ R1.gh, P1 _ _ _ _ R1 Step.refl (itd_3 w1 w2 w3 l1 l2 l3)⟩
      · cases hr
    · cases hr
end
end DL

/-! D6: targets, comprehensions. -/
namespace DL
open PySem PySem.Spec PyProof.Rows L2
/-! ### targets -/
/-- but for the slots vs -/
def StEq (vs : List Nat) (σ σ' : L2.St) : Prop := σ.length = σ'.length ∧ ∀ i, i ∉ vs → σ'[i]? = σ[i]?
theorem StEq.refl {vs : List Nat} {σ : L2.St} : StEq vs σ σ := ⟨rfl, fun _ _ => rfl⟩
theorem StEq.trans {vs : List Nat} {σ σ1 σ2 : L2.St} (a : StEq vs σ σ1) (b : StEq vs σ1 σ2) : StEq vs σ σ2 := ⟨a.1.trans b.1, fun i h => (b.2 i h).trans (a.2 i h)⟩
theorem StEq.sub {vs ws : List Nat} {σ σ' : L2.St} (a : StEq vs σ σ') (h : ∀ i, i ∈ vs → i ∈ ws) : StEq ws σ σ' := ⟨a.1, fun i n => a.2 i fun z => n (h i z)⟩
theorem StEq.set {i : Nat} {σ : L2.St} {v : Option V} : StEq [i] σ (σ.set i v) := ⟨by rw [List.length_set], fun j h => by
  have : i ≠ j := fun e => h (by simp [e])
  exact List.getElem?_set_ne this⟩
theorem wipe_get (σ : L2.St) (i : Nat) : ∀ vs : List Nat, (wipe σ vs)[i]? = if i ∈ vs ∧ i < σ.length then some none else σ[i]?
  | [] => by simp [wipe]
  | v :: vs => by
    show ((wipe σ vs).set v none)[i]? = _
    have ih := wipe_get σ i vs
    by_cases e : v = i
    · subst e
      by_cases hl : v < σ.length
      · rw [List.getElem?_set_self (by rw [wipe_length]; exact hl), if_pos ⟨by simp, hl⟩]
      · rw [List.getElem?_eq_none (by rw [List.length_set, wipe_length]; omega), if_neg (fun z => hl z.2), List.getElem?_eq_none (by omega)]
    · rw [List.getElem?_set_ne e, ih]
      by_cases h : i ∈ vs ∧ i < σ.length
      · rw [if_pos h, if_pos ⟨by simp [h.1], h.2⟩]
      · rw [if_neg h, if_neg]
        rintro ⟨h1, h2⟩
        rcases List.mem_cons.mp h1 with z | z
        · exact e z.symm
        · exact h ⟨z, h2⟩
theorem StEq.wipe {vs : List Nat} {σ σ' : L2.St} (h : StEq vs σ σ') : L2.wipe σ' vs = L2.wipe σ vs := by
  refine List.ext_getElem? fun i => ?_
  rw [wipe_get, wipe_get, h.1]
  by_cases c : i ∈ vs
  · by_cases hl : i < σ'.length
    · rw [if_pos ⟨c, hl⟩, if_pos ⟨c, hl⟩]
    · rw [if_neg (fun z => hl z.2), if_neg (fun z => hl z.2), List.getElem?_eq_none (by omega), List.getElem?_eq_none (by rw [h.1]; omega)]
  · rw [if_neg (fun z => c z.1), if_neg (fun z => c z.1), h.2 i c]
section
variable {X : Cx} {Z : Pm} {W : WX}
theorem CellOk.st {σ σ' : L2.St} {G : Hp} {O : Own} {H : Hp} {i : Nat} {c : Cell} (h : CellOk Z σ G O H i c) (e : σ'[i]? = σ[i]?) : CellOk Z σ' G O H i c := by
  cases c <;> first | trivial | (unfold CellOk at h ⊢; rw [e]; exact h)
theorem Rel.fr {ρ : Env} {σ : L2.St} {G : Hp} {O : Own} {H : Hp} (R : Rel Z ρ σ G O H) {i : Nat} {v : V} {d : PyData} (r : Dr Z.K G v d) : Rel Z (ρ.set i (.fr d)) (σ.set i (some v)) G O H := by
  refine ⟨by rw [List.length_set, List.length_set]; exact R.len, R.gh, R.go, R.oh, fun j c h => ?_⟩
  by_cases e : i = j
  · subst e
    have hi : i < ρ.length := by
      have := (List.getElem?_eq_some_iff.mp h).1
      rwa [List.length_set] at this
    rw [List.getElem?_set_self hi] at h
    cases h
    exact ⟨v, List.getElem?_set_self (by rw [← R.len]; exact hi), r⟩
  · rw [List.getElem?_set_ne e] at h
    exact (R.cell j c h).st (List.getElem?_set_ne e)
abbrev TgF := PyData → Env → Option Env
abbrev TgsF := List PyData → Env → Option Env
def TDg (Z : Pm) (g : TgF) (vs : List Nat) : TG := fun v σ H Q => ∃ ρ G O d ρ', Rel Z ρ σ G O H ∧ Dr Z.K G v d ∧ g d ρ = some ρ' ∧ ∀ σ', StEq vs σ σ' → Rel Z ρ' σ' G O H → Q σ' H
def TDgs (Z : Pm) (g : TgsF) (vs : List Nat) : TGs := fun v σ H Q => ∃ ρ G O d ρ', Rel Z ρ σ G O H ∧ DrL Z.K G v d ∧ g d ρ = some ρ' ∧ ∀ σ', StEq vs σ σ' → Rel Z ρ' σ' G O H → Q σ' H
abbrev DG (X : Cx) (Z : Pm) (tg : Expr) (g : TgF) (vs : List Nat) : Prop := PG X tg (TDg Z g vs)
abbrev DGs (X : Cx) (Z : Pm) (tg : List Expr) (g : TgsF) (vs : List Nat) : Prop := PGs X tg (TDgs Z g vs)
def gN (i : Nat) : TgF := fun d ρ => some (ρ.set i (.fr d))
def gsNil : TgsF := fun ds ρ => match ds with
  | [] => some ρ
  | _ => none
def gsCons (g : TgF) (gs : TgsF) : TgsF := fun ds ρ => match ds with
  | d :: r => match g d ρ with
    | some ρ1 => gs r ρ1
    | none => none
  | _ => none
def gT (n : Nat) (gs : TgsF) : TgF := fun d ρ => match d with
  | .tuple ds => if ds.length = n then gs ds ρ else none
  | _ => none
theorem dg_name {i : Nat} {x : Str} {pos : Pos} (hN : X.N.Nodup) (hi : X.N[i]? = some x) (hx : Loc X.env.scope x) (hf : X.fn x = true ∨ X.env.scope.names.lookup x = some .local := by first | exact .inl rfl | exact .inr rfl | assumption) : DG X Z (.Name x pos) (gN i) [i] := by
  refine PG_imp (pg_name hN hi hx hf) fun v σ H Q ⟨ρ, G, O, d, ρ', R, r, e, q⟩ => ?_
  cases e
  exact q _ StEq.set (R.fr r)
theorem dgs_nil : DGs X Z [] gsNil [] := by
  refine PGs_imp pgs_nil fun v σ H Q ⟨ρ, G, O, d, ρ', R, r, e, q⟩ => ?_
  cases r with
  | nil =>
    cases e
    exact ⟨rfl, q _ StEq.refl R⟩
  | cons a b => cases e
theorem dgs_cons {e : Expr} {es : List Expr} {g : TgF} {gs : TgsF} {vs ws : List Nat} (h1 : DG X Z e g vs) (h2 : DGs X Z es gs ws)
    (hs : (assignEach (e :: es) X.env).map (·.2) = assign e X.env :: (assignEach es X.env).map (·.2) := by rfl) : DGs X Z (e :: es) (gsCons g gs) (vs ++ ws) := by
  refine PGs_imp (pgs_cons h1 h2 hs) fun v σ H Q ⟨ρ, G, O, d, ρ', R, r, e, q⟩ => ?_
  cases r with
  | nil => cases e
  | cons a b =>
    unfold gsCons at e
    dsimp only at e
    split at e
    · rename_i ρ1 e1
      refine ⟨_, _, rfl, ρ, G, O, _, ρ1, R, a, e1, fun σ1 s1 R1 => ?_⟩
      exact ⟨ρ1, G, O, _, ρ', R1, b, e, fun σ2 s2 R2 => q σ2 ((s1.sub fun i hi => by simp [hi]).trans (s2.sub fun i hi => by simp [hi])) R2⟩
    · cases e
theorem dg_tup {es : List Expr} {k : Nat} {gs : TgsF} {vs : List Nat} {pos : Pos} {n : Nat} (hK : X.K = Z.K) (hc : X.calm = true) (h : DGs X Z es gs vs)
    (hn : (assignEach es X.env).length = n := by rfl) (hst : (assignEach es X.env).findIdx? (·.1) = none := by rfl) : DG X Z (.Tuple es k pos) (gT n gs) vs := by
  refine PG_imp (pg_tup hc h hn hst) fun v σ H Q ⟨ρ, G, O, d, ρ', R, r, e, q⟩ => ?_
  cases r with
  | tup h1 h2 =>
    unfold gT at e
    dsimp only at e
    obtain ⟨hl, e⟩ : _ ∧ _ := by
      split at e
      · rename_i c
        exact ⟨c, e⟩
      · cases e
    rw [hK]
    exact ⟨_, _, rfl, h1.sqT R.gh, by rw [h2.len]; exact hl, ρ, G, O, _, ρ', R, h2, e, q⟩
  | _ => cases e

/-! ### the slots of a block -/
def wipeE (ρ : Env) : List Nat → Env
  | [] => ρ
  | v :: vs => (wipeE ρ vs).set v .no
theorem wipeE_len (ρ : Env) : ∀ vs : List Nat, (wipeE ρ vs).length = ρ.length
  | [] => rfl
  | v :: vs => by rw [wipeE, List.length_set, wipeE_len ρ vs]
theorem wipeE_get (ρ : Env) (i : Nat) : ∀ vs : List Nat, (wipeE ρ vs)[i]? = if i ∈ vs ∧ i < ρ.length then some .no else ρ[i]?
  | [] => by simp [wipeE]
  | v :: vs => by
    show ((wipeE ρ vs).set v .no)[i]? = _
    have ih := wipeE_get ρ i vs
    by_cases e : v = i
    · subst e
      by_cases hl : v < ρ.length
      · rw [List.getElem?_set_self (by rw [wipeE_len]; exact hl), if_pos ⟨by simp, hl⟩]
      · rw [List.getElem?_eq_none (by rw [List.length_set, wipeE_len]; omega), if_neg (fun z => hl z.2), List.getElem?_eq_none (by omega)]
    · rw [List.getElem?_set_ne e, ih]
      by_cases h : i ∈ vs ∧ i < ρ.length
      · rw [if_pos h, if_pos ⟨by simp [h.1], h.2⟩]
      · rw [if_neg h, if_neg]
        rintro ⟨h1, h2⟩
        rcases List.mem_cons.mp h1 with z | z
        · exact e z.symm
        · exact h ⟨z, h2⟩
theorem Rel.wipe {ρ : Env} {σ : L2.St} {G : Hp} {O : Own} {H : Hp} (R : Rel Z ρ σ G O H) (vs : List Nat) : Rel Z (wipeE ρ vs) (L2.wipe σ vs) G O H := by
  refine ⟨by rw [wipeE_len, wipe_length]; exact R.len, R.gh, R.go, R.oh, fun i c h => ?_⟩
  rw [wipeE_get] at h
  by_cases e : i ∈ vs ∧ i < ρ.length
  · rw [if_pos e] at h
    cases h
    trivial
  · rw [if_neg e] at h
    refine (R.cell i c h).st ?_
    rw [wipe_get, if_neg]
    rw [← R.len]
    exact e
/-- the slots vs as they were -/
def backE (ρ ρ' : Env) : List Nat → Env
  | [] => ρ'
  | v :: vs => (backE ρ ρ' vs).set v (match ρ[v]? with
    | some (.fr d) => .fr d
    | _ => .no)
theorem backE_len (ρ ρ' : Env) : ∀ vs : List Nat, (backE ρ ρ' vs).length = ρ'.length
  | [] => rfl
  | v :: vs => by rw [backE, List.length_set, backE_len ρ ρ' vs]
theorem Rel.back {ρ ρ' : Env} {σ : L2.St} {G G' : Hp} {O O' : Own} {H H' : Hp} (R : Rel Z ρ σ G O H) (gg : Same G G') : ∀ (vs ws : List Nat), (∀ i, i ∈ vs → i ∈ ws) → Rel Z ρ' (L2.wipe σ ws) G' O' H' →
    ∃ τ, τ.length = σ.length ∧ (∀ i, i ∈ vs → τ[i]? = σ[i]?) ∧ (∀ i, i ∉ vs → τ[i]? = (L2.wipe σ ws)[i]?) ∧ Rel Z (backE ρ ρ' vs) τ G' O' H'
  | [], ws, _, R' => ⟨L2.wipe σ ws, wipe_length _ _, fun i h => absurd h (by simp), fun i _ => rfl, R'⟩
  | v :: vs, ws, hs, R' => by
    obtain ⟨τ, hl, e1, e2, RR⟩ := Rel.back R gg vs ws (fun i h => hs i (by simp [h])) R'
    by_cases hv : v < σ.length
    · refine ⟨τ.set v σ[v], by rw [List.length_set]; exact hl, fun i hi => ?_, fun i hi => ?_, ?_⟩
      · by_cases e : v = i
        · subst e
          rw [List.getElem?_set_self (by omega), List.getElem?_eq_getElem hv]
        · rw [List.getElem?_set_ne e]
          rcases List.mem_cons.mp hi with z | z
          · exact absurd z.symm e
          · exact e1 i z
      · have ne : v ≠ i := fun z => hi (by simp [z])
        rw [List.getElem?_set_ne ne]
        exact e2 i fun z => hi (by simp [z])
      · refine ⟨by rw [backE, List.length_set, List.length_set]; exact RR.len, RR.gh, RR.go, RR.oh, fun j c h => ?_⟩
        rw [backE] at h
        by_cases e : v = j
        · subst e
          have hj : v < (backE ρ ρ' vs).length := by
            have := (List.getElem?_eq_some_iff.mp h).1
            rwa [List.length_set] at this
          rw [List.getElem?_set_self hj] at h
          cases h
          split
          · rename_i d ed
            obtain ⟨x, q1, q2⟩ := R.cell v _ ed
            refine ⟨x, ?_, q2.mono gg⟩
            rw [List.getElem?_set_self (by omega), ← List.getElem?_eq_getElem hv, q1]
          · trivial
        · rw [List.getElem?_set_ne e] at h
          exact (RR.cell j c h).st (List.getElem?_set_ne e)
    · refine ⟨τ, hl, fun i hi => ?_, fun i hi => e2 i fun z => hi (by simp [z]), ?_⟩
      · rcases List.mem_cons.mp hi with z | z
        · subst z
          rw [List.getElem?_eq_none (by omega), List.getElem?_eq_none (by omega)]
        · exact e1 i z
      · rw [backE, List.set_eq_of_length_le]
        · exact RR
        · rw [backE_len, R'.len, wipe_length]
          omega
theorem Rel.restore {ρ ρ' : Env} {σ : L2.St} {G G' : Hp} {O O' : Own} {H H' : Hp} {vs : List Nat} (R : Rel Z ρ σ G O H) (gg : Same G G') (R' : Rel Z ρ' (L2.wipe σ vs) G' O' H') : Rel Z (backE ρ ρ' vs) σ G' O' H' := by
  obtain ⟨τ, hl, e1, e2, RR⟩ := Rel.back R gg vs vs (fun _ h => h) R'
  have : τ = σ := List.ext_getElem? fun i => by
    by_cases h : i ∈ vs
    · exact e1 i h
    · rw [e2 i h, wipe_get, if_neg fun z => h z.1]
  rwa [this] at RR
/-! ### a new list, held by nobody yet -/
def NewL (Z : Pm) : Hp → Own → Hp → V → List PyData → Prop := fun G O H v ds => ∃ a vs, v = .ref a ∧ O a = some lim ∧ H a = some (.lst vs) ∧ DrL Z.K G vs ds
abbrev DF (X : Cx) (Z : Pm) (W : WX) (e : Expr) (f : Env → R (List PyData)) : Prop := PE X e (T_ Z W (NewL Z) f)
def eFl (f : Env → R (List PyData)) : Env → R PyData := fun ρ => (f ρ).bind fun ds ρ1 => .ok (.list ds) ρ1
theorem Rel.freeze {ρ : Env} {σ : L2.St} {G : Hp} {O : Own} {H : Hp} (R : Rel Z ρ σ G O H) {a : Addr} {o : HO} (h : H a = some o) (ho : O a = some lim) (hl : ρ.length ≤ lim) : Rel Z ρ σ (upd G a o) (O.del a) H ∧ Step G O H (upd G a o) (O.del a) H := by
  have na : O a ≠ none := by rw [ho]; exact fun z => nomatch z
  have ga : G a = none := R.go a na
  have gg : Same G (upd G a o) := same_new ga
  refine ⟨⟨R.len, fun b x e => ?_, fun b e => ?_, fun b e => R.oh b (Own.del_some e).2, fun i c e => ?_⟩, gg, fun b e => ?_, fun b e => .inl (Own.del_some e).2, fun b x e n => e⟩
  · by_cases z : b = a
    · subst z
      rw [upd_same] at e
      rw [h]
      exact e
    · rw [upd_ne z] at e
      exact R.gh _ _ e
  · obtain ⟨z, e⟩ := Own.del_some e
    rw [upd_ne z]
    exact R.go b e
  · have hi : i < lim := Nat.lt_of_lt_of_le (List.getElem?_eq_some_iff.mp e).1 hl
    refine (R.cell i c e).keep gg (fun b hb => ?_) fun b x _ q => q
    have : b ≠ a := fun z => by
      rw [z, ho] at hb
      have := Option.some.inj hb
      omega
    rw [Own.del_ne this]
    exact hb
  · by_cases z : b = a
    · exact .inr (.inl (by rw [z]; exact na))
    · rw [upd_ne z] at e
      exact .inl e
theorem de_fl {e : Expr} {f : Env → R (List PyData)} (hl : X.N.length ≤ lim) (h : DF X Z W e f) : DE X Z W e (eFl f) := by
  refine ⟨fun pins s σ H Q I q => h.run pins s σ H Q I ?_⟩
  obtain ⟨ρ, G, O, R, P⟩ := q
  refine t_bind R P fun ds ρ1 v G1 O1 H1 e1 R1 S1 D1 P1 => ?_
  obtain ⟨a, vs, rfl, ho, hv, r⟩ := D1
  obtain ⟨R2, S2⟩ := R1.freeze hv ho (by rw [R1.len, I.len]; exact hl)
  exact P1 _ _ _ _ R2 S2 (.lst (SqL.of upd_same) (r.mono S2.gg))
/-! ### comprehensions -/
/-- no exception -/
abbrev WN : WX := fun _ _ _ _ => False
def lcGo (g : TgF) (tt : Env → R Bool) (te : Env → R PyData) (vs : List Nat) : List PyData → Env → R (List PyData)
  | [], ρ => .ok [] ρ
  | d :: r, ρ => match g d (wipeE ρ vs) with
    | none => .bad
    | some ρ2 => match tt ρ2 with
      | .ok b ρ3 => if b = true then match te ρ3 with
          | .ok x ρ4 => (lcGo g tt te vs r (wipeE ρ4 vs)).bind fun xs ρ5 => .ok (x :: xs) ρ5
          | _ => .bad
        else lcGo g tt te vs r (wipeE ρ3 vs)
      | _ => .bad
def eLc (it : Env → R (List PyData)) (g : TgF) (tt : Env → R Bool) (te : Env → R PyData) (vs : List Nat) : Env → R (List PyData) := fun ρ => (it ρ).bind fun ds ρ1 =>
  if ds.length < lim then match lcGo g tt te vs ds (wipeE ρ1 vs) with
    | .ok xs ρ2 => .ok xs (backE ρ1 ρ2 vs)
    | _ => .bad
  else .bad
def tYesD : Env → R Bool := fun ρ => .ok true ρ
abbrev DTs (X : Cx) (Z : Pm) (W : WX) (ifs : List Expr) (f : Env → R Bool) : Prop := PTs X ifs (TDb Z W f)
theorem dts_nil : DTs X Z W [] tYesD := ⟨fun pins s σ H Q I ⟨ρ, G, O, R, P⟩ => pts_nil.run pins s σ H Q I (P true G O H R Step.refl rfl)⟩
theorem dts_one {c : Expr} {t : Env → R Bool} (h : DT X Z W c t) : DTs X Z W [c] t := pts_one h
theorem wipe_wipe (σ : L2.St) (vs : List Nat) : L2.wipe (L2.wipe σ vs) vs = L2.wipe σ vs := by
  refine List.ext_getElem? fun i => ?_
  rw [wipe_get, wipe_length, wipe_get]
  by_cases c : i ∈ vs ∧ i < σ.length
  · rw [if_pos c, if_pos c]
  · rw [if_neg c]
theorem bind_ok {α β : Type} {r : R α} {k : α → Env → R β} {b : β} {ρ : Env} (h : r.bind k = .ok b ρ) : ∃ a ρ1, r = .ok a ρ1 ∧ k a ρ1 = .ok b ρ := by
  cases r with
  | ok a ρ1 => exact ⟨a, ρ1, rfl, h⟩
  | er x ρ1 => cases h
  | bad => cases h
/-- the turns -/
theorem lc_turns {wi : TI} {g : TgF} {tt : Env → R Bool} {te : Env → R PyData} {vs gvs : List Nat} {it : Env → R (List PyData)} (hv : ∀ i, i ∈ gvs → i ∈ vs) {σ : L2.St} {H : Hp} {Q : VK}
    (hw : ∀ R', T_ Z W (fun G _ _ (J : It) ds => ItD Z.K J G ds) it σ H R' → wi σ H R')
    (h : T_ Z W (NewL Z) (eLc it g tt te vs) σ H Q) : tLc wi (TDg Z g gvs) (TDb Z WN tt) (TD Z WN te) vs σ H Q := by
  refine hw _ ?_
  obtain ⟨ρ, G, O, R, P⟩ := h
  refine t_bind R P fun ds ρ1 J G1 O1 H1 e1 R1 S1 D1 P1 => ?_
  intro D hD
  by_cases hl : ds.length < lim
  case neg =>
    rw [if_neg hl] at P1
    exact P1.elim
  rw [if_pos hl] at P1
  cases e2 : lcGo g tt te vs ds (wipeE ρ1 vs) with
  | bad =>
    rw [e2] at P1
    exact P1.elim
  | er x ρ2 =>
    rw [e2] at P1
    exact P1.elim
  | ok xs ρ2 =>
    rw [e2] at P1
    let Inv_ : Nat → Hp → Prop := fun i H2 => ∃ ρi Gi Oi acc vsD ys, Rel Z ρi (L2.wipe σ vs) Gi Oi H2 ∧ Step G1 O1 H1 Gi Oi H2 ∧ H2 D = some (.lst vsD) ∧ Gi D = none ∧ Oi D = none ∧ DrL Z.K Gi vsD acc ∧ acc.length ≤ i ∧
      lcGo g tt te vs (ds.drop i) ρi = .ok ys ρ2 ∧ xs = acc ++ ys
    refine ⟨fun i m H2 => m = ds.length - i ∧ i ≤ ds.length ∧ Inv_ i H2, ⟨ds.length, rfl, Nat.zero_le _, ?_⟩, ?_⟩
    · have gd : G1 D = none := by
        cases q : G1 D with
        | none => rfl
        | some o =>
          rw [R1.gh _ _ q] at hD
          cases hD
      have od : O1 D = none := by
        cases q : O1 D with
        | none => rfl
        | some o => exact absurd hD (R1.oh D (by rw [q]; exact fun z => nomatch z))
      have sd : Same H1 (upd H1 D (.lst [])) := same_new hD
      refine ⟨wipeE ρ1 vs, G1, O1, [], [], xs, ?_, ?_, upd_same, gd, od, .nil, Nat.zero_le _, by rw [List.drop_zero]; exact e2, rfl⟩
      · have R2 := R1.wipe vs
        refine ⟨R2.len, R2.gh.trans sd, R2.go, fun a ha => ?_, fun i c hc => (R2.cell i c hc).keep (Same.refl _) (fun _ q => q) fun a o _ q => sd _ _ q⟩
        have := R2.oh a ha
        cases q : H1 a with
        | none => exact absurd q this
        | some o =>
          rw [sd _ _ q]
          exact fun z => nomatch z
      · exact ⟨Same.refl _, fun b hb => .inl hb, fun b hb => .inl hb, fun b o hb _ => sd _ _ hb⟩
    · rintro i m H2 ⟨rfl, hi, ρi, Gi, Oi, acc, vsD, ys, Ri, Si, hDi, gDi, oDi, rD, al, eg, ex⟩
      obtain ⟨j1, j2, j3⟩ := (D1.mono Si.gg) H2 Ri.gh
      by_cases hlt : i < ds.length
      case neg =>
        have ei : i = ds.length := by omega
        subst ei
        rw [List.drop_length] at eg
        cases eg
        rw [List.append_nil] at ex
        subst ex
        refine .inl ⟨j3, ?_⟩
        have R3 : Rel Z (backE ρ1 ρ2 vs) σ Gi (fun b => if b = D then some lim else Oi b) H2 := by
          have RR := R1.restore Si.gg Ri
          refine ⟨RR.len, RR.gh, fun a ha => ?_, fun a ha => ?_, fun j c hc => (RR.cell j c hc).keep (Same.refl _) (fun b hb => ?_) fun _ _ _ q => q⟩
          · by_cases z : a = D
            · rw [z]; exact gDi
            · try dsimp only at ha
              rw [if_neg z] at ha
              exact RR.go a ha
          · by_cases z : a = D
            · rw [z, hDi]
              exact fun q => nomatch q
            · try dsimp only at ha
              rw [if_neg z] at ha
              exact RR.oh a ha
          · have : b ≠ D := fun z => by
              rw [z, oDi] at hb
              cases hb
            try dsimp only
            rw [if_neg this]
            exact hb
        refine P1 (.ref D) Gi _ H2 R3 ⟨Si.gg, Si.gn, fun b hb => ?_, Si.fr⟩ ⟨D, vsD, rfl, if_pos rfl, hDi, rD⟩
        by_cases z : b = D
        · exact .inr (by rw [z]; exact hD)
        · try dsimp only at hb
          rw [if_neg z] at hb
          exact Si.oo b hb
      refine .inr ⟨j1 i hlt, Inv_ (i + 1), fun H' n' => ⟨ds.length - (i + 1), by omega, rfl, hlt, n'⟩, fun x H' hy => ?_⟩
      obtain ⟨s', d, ed, dr⟩ := j2 i x H' hlt hy
      have ed2 : ds.drop i = d :: ds.drop (i + 1) := by
        rw [List.drop_eq_getElem_cons hlt]
        rw [List.getElem?_eq_getElem hlt] at ed
        cases ed
        rfl
      rw [ed2] at eg
      unfold lcGo at eg
      have Rg := Ri.grow s'
      have Sg := Ri.stepGrow s'
      have gDg : DL.grow Gi H2 H' D = none := grow_none gDi hDi
      have hDg : H' D = some (.lst vsD) := s' _ _ hDi
      cases ge : g d (wipeE ρi vs) with
      | none =>
        rw [ge] at eg
        cases eg
      | some ρ3 =>
        rw [ge] at eg
        dsimp only at eg
        have Rw := Rg.wipe vs
        rw [wipe_wipe] at Rw
        refine ⟨_, _, _, _, ρ3, Rw, dr, ge, fun σ2 sq R3 => ⟨(sq.sub hv).wipe.trans (wipe_wipe σ vs), ?_⟩⟩
        have wq : L2.wipe σ2 vs = L2.wipe σ vs := (sq.sub hv).wipe.trans (wipe_wipe σ vs)
        refine ⟨ρ3, _, _, R3, ?_⟩
        cases te1 : tt ρ3 with
        | bad =>
          rw [te1] at eg
          cases eg
        | er y ρ4 =>
          rw [te1] at eg
          cases eg
        | ok b ρ4 =>
          rw [te1] at eg
          dsimp only at eg
          intro b' G4 O4 H4 R4 S4 hb
          subst hb
          have kD : ∀ {G5 O5 H5}, Step (DL.grow Gi H2 H') Oi H' G5 O5 H5 → G5 D = none ∧ O5 D = none ∧ H5 D = some (.lst vsD) := by
            intro G5 O5 H5 S5
            refine ⟨?_, ?_, S5.fr _ _ hDg oDi⟩
            · cases q : G5 D with
              | none => rfl
              | some o =>
                rcases S5.gn D (by rw [q]; exact fun z => nomatch z) with z | z | z
                · exact absurd gDg z
                · exact absurd oDi z
                · rw [hDg] at z
                  cases z
            · cases q : O5 D with
              | none => rfl
              | some o =>
                rcases S5.oo D (by rw [q]; exact fun z => nomatch z) with z | z
                · exact absurd oDi z
                · rw [hDg] at z
                  cases z
          cases b' with
          | false =>
            rw [if_neg Bool.false_ne_true] at eg ⊢
            obtain ⟨k1, k2, k3⟩ := kD S4
            refine ⟨wipeE ρ4 vs, G4, O4, acc, vsD, ys, ?_, Si.trans (Sg.trans S4), k3, k1, k2, (rD.mono Sg.gg).mono S4.gg, Nat.le_succ_of_le al, eg, ex⟩
            have := R4.wipe vs
            rwa [wq] at this
          | true =>
            rw [if_pos rfl] at eg ⊢
            refine ⟨ρ4, G4, O4, R4, ?_⟩
            cases te2 : te ρ4 with
            | bad =>
              rw [te2] at eg
              cases eg
            | er y ρ5 =>
              rw [te2] at eg
              cases eg
            | ok z ρ5 =>
              rw [te2] at eg
              dsimp only at eg
              intro y G5 O5 H5 R5 S5 hz
              obtain ⟨k1, k2, k3⟩ := kD (S4.trans S5)
              obtain ⟨zs, ρ6, eg1, eg2⟩ := bind_ok eg
              cases eg2
              have gg : Same Gi G5 := Sg.gg.trans (S4.gg.trans S5.gg)
              refine ⟨vsD, k3, ?_, wipeE ρ5 vs, G5, O5, acc ++ [z], vsD ++ [y], zs, ?_, ?_, upd_same, k1, k2, (rD.mono gg).append (.cons hz .nil), ?_, eg1, by rw [ex]; simp⟩
              · rw [rD.len]
                have : lim ≤ sizeLine := lim_sz (Nat.le_refl _)
                omega
              · have Rw5 := R5.wipe vs
                rw [wq] at Rw5
                have hne : ∀ b o, H5 b = some o → (b ≠ D ∨ False) → (upd H5 D (.lst (vsD ++ [y]))) b = some o := fun b o e q => by
                  rcases q with q | q
                  · rw [upd_ne q]
                    exact e
                  · exact q.elim
                refine ⟨Rw5.len, fun b o e => hne b o (Rw5.gh b o e) (.inl fun q => ?_), Rw5.go, fun b hb => ?_, fun j c hc => (Rw5.cell j c hc).keep (Same.refl _) (fun _ q => q) fun b o hb e => hne b o e (.inl fun q => ?_)⟩
                · rw [q, k1] at e
                  cases e
                · have nb : b ≠ D := fun q => by
                    rw [q] at hb
                    exact hb k2
                  rw [upd_ne nb]
                  exact Rw5.oh b hb
                · rw [q, k2] at hb
                  cases hb
              · have S6 := Si.trans (Sg.trans (S4.trans S5))
                refine ⟨S6.gg, S6.gn, S6.oo, fun b o e n => ?_⟩
                have nb : b ≠ D := fun q => by
                  rw [q, hD] at e
                  cases e
                rw [upd_ne nb]
                exact S6.fr b o e n
              · rw [List.length_append]
                simp
                omega
abbrev blkX (X : Cx) (scope : Scope) (s : Shared) (H : Hp) (C : Addr) (cl : List (Str × Addr)) (fp : List Addr) : Cx := X.blk s H scope (compEnvC scope cl C X.env) fp
theorem df_lc {elt tg iter : Expr} {ifs : List Expr} {scope : Scope} {own : List (Str × Nat)} {pos : Pos} {it : Env → R (List PyData)} {g : TgF} {gvs : List Nat} {tt : Env → R Bool} {te : Env → R PyData} (hc : X.calm = true) (hN : X.N.Nodup) (hi : DI X Z W tg iter it) (ok : BlkOk X.N X.env.scope scope own) (hv : ∀ i, i ∈ gvs → i ∈ own.map (·.2))
    (hg : ∀ s H C cl fp, DG (blkX X scope s H C cl fp) Z tg g gvs) (ht : ∀ s H C cl fp, DTs (blkX X scope s H C cl fp) Z WN ifs tt) (he : ∀ s H C cl fp, DE (blkX X scope s H C cl fp) Z WN elt te) (hs : ∀ x, foldedSetIterable iter X.env x = pure x := by intro _; rfl) :
    DF X Z W (.ListComp elt [⟨tg, iter, ifs, 0⟩] scope pos) (eLc it g tt te (own.map (·.2))) :=
  PE_imp (pe_lc hc hN hi ok hg ht he hs) fun σ H Q h => lc_turns hv (fun _ q => q) h
end
end DL

/-! D7: statements. -/
namespace DL
open PySem PySem.Spec PyProof.Rows L2
inductive FlR (α : Type) where
  | nx (ρ : Env)
  | bk (ρ : Env)
  | ct (ρ : Env)
  | rt (d : α) (ρ : Env)
  | er (x : Ex) (ρ : Env)
  | bad
def PostS {α : Type} (Z : Pm) (W : WX) (rel : Hp → Own → Hp → V → α → Prop) (G : Hp) (O : Own) (H : Hp) (D : Ends) : FlR α → Prop
  | .nx ρ => ∀ σ' G' O' H', Rel Z ρ σ' G' O' H' → Step G O H G' O' H' → D.nx σ' H'
  | .bk ρ => ∀ σ' G' O' H', Rel Z ρ σ' G' O' H' → Step G O H G' O' H' → D.bk σ' H'
  | .ct ρ => ∀ σ' G' O' H', Rel Z ρ σ' G' O' H' → Step G O H G' O' H' → D.ct σ' H'
  | .rt d ρ => ∀ v σ' G' O' H', Rel Z ρ σ' G' O' H' → Step G O H G' O' H' → rel G' O' H' v d → D.rt v H'
  | .er x ρ => ∀ c od σ' G' O' H', Rel Z ρ σ' G' O' H' → Step G O H G' O' H' → ExIs Z G' x c od → W c od σ' H'
  | .bad => False
def TS_ {α : Type} (Z : Pm) (W : WX) (rel : Hp → Own → Hp → V → α → Prop) (f : Env → FlR α) : TS := fun D σ H => ∃ ρ G O, Rel Z ρ σ G O H ∧ PostS Z W rel G O H D (f ρ)
/-- a value as data -/
abbrev RD (Z : Pm) : Hp → Own → Hp → V → PyData → Prop := fun G _ _ v d => Dr Z.K G v d
abbrev DS {α : Type} (X : Cx) (Z : Pm) (W : WX) (rel : Hp → Own → Hp → V → α → Prop) (st : Stmt) (f : Env → FlR α) : Prop := PS X st (TS_ Z W rel f)
abbrev DSs {α : Type} (X : Cx) (Z : Pm) (W : WX) (rel : Hp → Own → Hp → V → α → Prop) (st : List Stmt) (f : Env → FlR α) : Prop := PSs X st (TS_ Z W rel f)
section
variable {α : Type} {X : Cx} {Z : Pm} {W : WX} {rel : Hp → Own → Hp → V → α → Prop}
theorem PostS.step {G : Hp} {O : Own} {H : Hp} {D : Ends} {r : FlR α} {G1 : Hp} {O1 : Own} {H1 : Hp} (s : Step G O H G1 O1 H1) (h : PostS Z W rel G O H D r) : PostS Z W rel G1 O1 H1 D r := by
  cases r with
  | nx ρ => exact fun σ' G' O' H' R S => h σ' G' O' H' R (s.trans S)
  | bk ρ => exact fun σ' G' O' H' R S => h σ' G' O' H' R (s.trans S)
  | ct ρ => exact fun σ' G' O' H' R S => h σ' G' O' H' R (s.trans S)
  | rt d ρ => exact fun v σ' G' O' H' R S => h v σ' G' O' H' R (s.trans S)
  | er x ρ => exact fun c od σ' G' O' H' R S => h c od σ' G' O' H' R (s.trans S)
  | bad => exact h
/-- an expression, then the rest -/
def toF {β : Type} (r : R β) (k : β → Env → FlR α) : FlR α := match r with
  | .ok a ρ => k a ρ
  | .er x ρ => .er x ρ
  | .bad => .bad
theorem s_bind {β γ : Type} {rel1 : Hp → Own → Hp → γ → β → Prop} {f : Env → R β} {k : β → Env → FlR α} {σ : L2.St} {ρ : Env} {G : Hp} {O : Own} {H : Hp} {D : Ends} {Q1 : γ → Hp → Prop}
    (R0 : Rel Z ρ σ G O H) (h : PostS Z W rel G O H D (toF (f ρ) k))
    (c : ∀ d ρ1 v G1 O1 H1, f ρ = .ok d ρ1 → Rel Z ρ1 σ G1 O1 H1 → Step G O H G1 O1 H1 → rel1 G1 O1 H1 v d → PostS Z W rel G1 O1 H1 D (k d ρ1) → Q1 v H1) : T_ Z W rel1 f σ H Q1 := by
  refine ⟨ρ, G, O, R0, ?_⟩
  cases e : f ρ with
  | ok d ρ1 =>
    rw [e] at h
    exact fun v G1 O1 H1 R1 S1 D1 => c d ρ1 v G1 O1 H1 e R1 S1 D1 (PostS.step S1 h)
  | er x ρ1 =>
    rw [e] at h
    exact fun c od G' O' H' R' S' E' => h c od σ G' O' H' R' S' E'
  | bad =>
    rw [e] at h
    exact h.elim
/-! ### blocks -/
def sNil : Env → FlR α := fun ρ => .nx ρ
def sSeq (f g : Env → FlR α) : Env → FlR α := fun ρ => match f ρ with
  | .nx ρ1 => g ρ1
  | r => r
theorem ss_nil : DSs X Z W rel [] sNil := PSs_imp pss_nil fun D σ H ⟨ρ, G, O, R, P⟩ => P σ G O H R Step.refl
theorem ss_cons {st : Stmt} {rest : List Stmt} {f g : Env → FlR α} (h1 : DS X Z W rel st f) (h2 : DSs X Z W rel rest g) : DSs X Z W rel (st :: rest) (sSeq f g) := by
  refine PSs_imp (pss_cons h1 h2) fun D σ H ⟨ρ, G, O, R, P⟩ => ⟨ρ, G, O, R, ?_⟩
  unfold sSeq at P
  cases e : f ρ with
  | nx ρ1 =>
    rw [e] at P
    exact fun σ' G' O' H' R' S' => ⟨ρ1, G', O', R', PostS.step S' P⟩
  | _ => rw [e] at P; exact P
theorem ss_one {st : Stmt} {f : Env → FlR α} (h1 : DS X Z W rel st f) : DSs X Z W rel [st] f := pss_one h1
theorem ss_bad {st : List Stmt} : DSs X Z W rel st (fun _ => .bad) := ⟨fun _ _ _ _ _ _ h => by
  obtain ⟨_, _, _, _, z⟩ := h
  exact z.elim⟩
theorem s_bad {st : Stmt} : DS X Z W rel st (fun _ => .bad) := ⟨fun _ _ _ _ _ _ h => by
  obtain ⟨_, _, _, _, z⟩ := h
  exact z.elim⟩
theorem s_pass {pos : Pos} : DS X Z W rel (.Pass pos) sNil := PS_imp ps_pass fun D σ H ⟨ρ, G, O, R, P⟩ => P σ G O H R Step.refl
def sBk : Env → FlR α := fun ρ => .bk ρ
def sCt : Env → FlR α := fun ρ => .ct ρ
theorem s_break {pos : Pos} : DS X Z W rel (.Break pos) sBk := PS_imp ps_break fun D σ H ⟨ρ, G, O, R, P⟩ => P σ G O H R Step.refl
theorem s_continue {pos : Pos} : DS X Z W rel (.Continue pos) sCt := PS_imp ps_continue fun D σ H ⟨ρ, G, O, R, P⟩ => P σ G O H R Step.refl
def sDo (f : Env → R PyData) : Env → FlR α := fun ρ => toF (f ρ) fun _ ρ1 => .nx ρ1
theorem s_expr {e : Expr} {f : Env → R PyData} {pos : Pos} (h : DE X Z W e f) (hs : swapsWith e none pos.line X.env = pure false := by rfl) : DS X Z W rel (.Expr e pos) (sDo f) := by
  refine PS_imp (ps_expr h hs) fun D σ H ⟨ρ, G, O, R, P⟩ => ?_
  exact s_bind R P fun d ρ1 v G1 O1 H1 e1 R1 S1 D1 P1 => P1 σ G1 O1 H1 R1 Step.refl
def sRet (f : Env → R α) : Env → FlR α := fun ρ => toF (f ρ) fun d ρ1 => .rt d ρ1
theorem s_ret {e : Expr} {f : Env → R α} {pos : Pos} (h : PE X e (T_ Z W rel f)) : DS X Z W rel (.Return (some e) pos) (sRet f) := by
  refine PS_imp (ps_ret h) fun D σ H ⟨ρ, G, O, R, P⟩ => ?_
  exact s_bind R P fun d ρ1 v G1 O1 H1 e1 R1 S1 D1 P1 => P1 v σ G1 O1 H1 R1 Step.refl D1
def sRetN : Env → FlR PyData := fun ρ => .rt .none ρ
theorem s_retN {pos : Pos} : DS X Z W (RD Z) (.Return none pos) sRetN := PS_imp ps_retN fun D σ H ⟨ρ, G, O, R, P⟩ => P .non σ G O H R Step.refl .non
def sIf (c : Env → R Bool) (f g : Env → FlR α) : Env → FlR α := fun ρ => toF (c ρ) fun b ρ1 => if b = true then f ρ1 else g ρ1
theorem s_if {c : Expr} {a b : List Stmt} {fc : Env → R Bool} {f g : Env → FlR α} {pos : Pos} (hc : DT X Z W c fc) (ha : DSs X Z W rel a f) (hb : DSs X Z W rel b g) : DS X Z W rel (.If c a b pos) (sIf fc f g) := by
  refine PS_imp (ps_if hc ha hb) fun D σ H ⟨ρ, G, O, R, P⟩ => ?_
  refine s_bind R P fun d ρ1 v G1 O1 H1 e1 R1 S1 D1 P1 => ?_
  subst D1
  cases v with
  | true =>
    rw [if_pos rfl] at P1 ⊢
    exact ⟨ρ1, G1, O1, R1, P1⟩
  | false =>
    rw [if_neg Bool.false_ne_true] at P1 ⊢
    exact ⟨ρ1, G1, O1, R1, P1⟩
/-! ### assignments -/
def sSet (i : Nat) (f : Env → R PyData) : Env → FlR α := fun ρ => toF (f ρ) fun d ρ1 => .nx (ρ1.set i (.fr d))
theorem s_set {i : Nat} {x : Str} {e : Expr} {f : Env → R PyData} {pos pos' : Pos} (hN : X.N.Nodup) (hi : X.N[i]? = some x) (hx : Loc X.env.scope x) (h : DE X Z W e f) (hs : swapsWith e (some (.Name x pos')) pos.line X.env = pure false := by rfl) (hf : X.fn x = true ∨ X.env.scope.names.lookup x = some .local := by first | exact .inl rfl | exact .inr rfl | assumption) :
    DS X Z W rel (.Assign [.Name x pos'] e pos) (sSet i f) := by
  refine PS_imp (ps_set hN hi hx h hs hf) fun D σ H ⟨ρ, G, O, R, P⟩ => ?_
  exact s_bind R P fun d ρ1 v G1 O1 H1 e1 R1 S1 D1 P1 => P1 _ G1 O1 H1 (R1.fr D1) Step.refl
/-- a new list is given to the slot i -/
theorem Rel.take {ρ : Env} {σ : L2.St} {G : Hp} {O : Own} {H : Hp} (R : Rel Z ρ σ G O H) {i : Nat} {a : Addr} {c : Cell} (ho : O a = some lim) (hl : ρ.length ≤ lim) (hi : i < ρ.length)
    (hc : CellOk Z (σ.set i (some (.ref a))) G (fun b => if b = a then some i else O b) H i c) : Rel Z (ρ.set i c) (σ.set i (some (.ref a))) G (fun b => if b = a then some i else O b) H ∧ Step G O H G (fun b => if b = a then some i else O b) H := by
  have na : O a ≠ none := by rw [ho]; exact fun z => nomatch z
  have back : ∀ b, (if b = a then some i else O b) ≠ none → O b ≠ none := fun b hb => by
    by_cases z : b = a
    · rw [z]; exact na
    · rwa [if_neg z] at hb
  refine ⟨⟨by rw [List.length_set, List.length_set]; exact R.len, R.gh, fun b hb => R.go b (back b hb), fun b hb => R.oh b (back b hb), fun j c' h => ?_⟩, Same.refl _, fun b hb => .inl hb, fun b hb => .inl (back b hb), fun b o hb _ => hb⟩
  by_cases e : i = j
  · subst e
    rw [List.getElem?_set_self hi] at h
    cases h
    exact hc
  · rw [List.getElem?_set_ne e] at h
    have hj : j < lim := Nat.lt_of_lt_of_le (List.getElem?_eq_some_iff.mp h).1 hl
    refine ((R.cell j c' h).st (List.getElem?_set_ne e)).keep (Same.refl _) (fun b hb => ?_) fun _ _ _ q => q
    have : b ≠ a := fun z => by
      rw [z, ho] at hb
      have := Option.some.inj hb
      omega
    rw [if_neg this]
    exact hb
def sSetL (i : Nat) (f : Env → R (List PyData)) : Env → FlR α := fun ρ => toF (f ρ) fun d ρ1 => .nx (ρ1.set i (.ol false d))
theorem setL_post {i : Nat} {f : Env → R (List PyData)} (hn : i < X.N.length) (hl : X.N.length ≤ lim) {D : Ends} {σ : L2.St} {H : Hp} (hσ : σ.length = X.N.length) (h : TS_ Z W rel (sSetL i f) D σ H) : T_ Z W (NewL Z) f σ H fun x H1 => gName i x σ H1 D.nx := by
  obtain ⟨ρ, G, O, R, P⟩ := h
  refine s_bind R P fun d ρ1 v G1 O1 H1 e1 R1 S1 D1 P1 => ?_
  obtain ⟨a, vs, rfl, ho, hv, r⟩ := D1
  have hl1 : ρ1.length = X.N.length := by rw [R1.len, hσ]
  obtain ⟨R2, S2⟩ := R1.take (i := i) (c := .ol false d) ho (by omega) (by omega) ⟨a, vs, List.getElem?_set_self (by rw [hσ]; exact hn), if_pos rfl, hv, r, fun z => nomatch z⟩
  exact P1 _ _ _ _ R2 S2
theorem s_setL {i : Nat} {x : Str} {e : Expr} {f : Env → R (List PyData)} {pos pos' : Pos} (hl : X.N.length ≤ lim) (hN : X.N.Nodup) (hi : X.N[i]? = some x) (hx : Loc X.env.scope x) (h : DF X Z W e f) (hs : swapsWith e (some (.Name x pos')) pos.line X.env = pure false := by rfl) (hf : X.fn x = true ∨ X.env.scope.names.lookup x = some .local := by first | exact .inl rfl | exact .inr rfl | assumption) :
    DS X Z W rel (.Assign [.Name x pos'] e pos) (sSetL i f) :=
  ⟨fun pins s σ H D I q => (ps_set hN hi hx h hs hf).run pins s σ H D I (setL_post (List.getElem?_eq_some_iff.mp hi).1 hl I.len q)⟩
/-- x = [.. for ..] on one line -/
theorem s_lcL {i : Nat} {y : Str} {py : Pos} {elt tg iter : Expr} {ifs : List Expr} {scope : Scope} {own : List (Str × Nat)} {pos spos : Pos} {it : Env → R (List PyData)} {g : TgF} {gvs : List Nat} {tt : Env → R Bool} {te : Env → R PyData} (hl : X.N.length ≤ lim) (hc : X.calm = true) (hN : X.N.Nodup) (hy : X.N[i]? = some y) (hyl : X.env.scope.names.lookup y = some .local)
    (hsw : swapsWith (.ListComp elt [⟨tg, iter, ifs, 0⟩] scope pos) (some (.Name y py)) spos.line X.env = pure true) (hi : DI X Z W tg iter it) (ok : BlkOk X.N X.env.scope scope own) (hv : ∀ i, i ∈ gvs → i ∈ own.map (·.2))
    (hg : ∀ s H C cl fp, DG (blkX X scope s H C cl fp) Z tg g gvs) (ht : ∀ s H C cl fp, DTs (blkX X scope s H C cl fp) Z WN ifs tt) (he : ∀ s H C cl fp, DE (blkX X scope s H C cl fp) Z WN elt te) (hs : ∀ x, foldedSetIterable iter X.env x = pure x := by intro _; rfl) :
    DS X Z W rel (.Assign [.Name y py] (.ListComp elt [⟨tg, iter, ifs, 0⟩] scope pos) spos) (sSetL i (eLc it g tt te (own.map (·.2)))) :=
  ⟨fun pins s σ H D I q => (ps_setLc hc hN hy hyl hsw hi ok hg ht he hs).run pins s σ H D I (lc_turns hv (fun _ z => z) (setL_post (List.getElem?_eq_some_iff.mp hy).1 hl I.len q))⟩
/-- .. that nobody will change -/
def sFl (i : Nat) (f : Env → R (List PyData)) : Env → FlR α := sSet i (eFl f)
theorem setF_post {i : Nat} {f : Env → R (List PyData)} (hl : X.N.length ≤ lim) {D : Ends} {σ : L2.St} {H : Hp} (hσ : σ.length = X.N.length) (h : TS_ Z W rel (sFl i f) D σ H) : T_ Z W (NewL Z) f σ H fun x H1 => gName i x σ H1 D.nx := by
  obtain ⟨ρ, G, O, R, P⟩ := h
  refine ⟨ρ, G, O, R, ?_⟩
  unfold sFl sSet eFl at P
  cases e : f ρ with
  | bad =>
    rw [e] at P
    exact P.elim
  | er x ρ1 =>
    rw [e] at P
    exact fun c od G' O' H' R' S' E' => P c od σ G' O' H' R' S' E'
  | ok ds ρ1 =>
    rw [e] at P
    have P : PostS Z W rel G O H D (.nx (ρ1.set i (.fr (.list ds)))) := P
    intro v G1 O1 H1 R1 S1 D1
    obtain ⟨a, vs, rfl, ho, hv, r⟩ := D1
    obtain ⟨R2, S2⟩ := R1.freeze hv ho (by rw [R1.len, hσ]; exact hl)
    exact P _ _ _ _ (R2.fr (d := .list ds) (.lst (SqL.of upd_same) (r.mono S2.gg))) (S1.trans S2)
theorem s_lcF {i : Nat} {y : Str} {py : Pos} {elt tg iter : Expr} {ifs : List Expr} {scope : Scope} {own : List (Str × Nat)} {pos spos : Pos} {it : Env → R (List PyData)} {g : TgF} {gvs : List Nat} {tt : Env → R Bool} {te : Env → R PyData} (hl : X.N.length ≤ lim) (hc : X.calm = true) (hN : X.N.Nodup) (hy : X.N[i]? = some y) (hyl : X.env.scope.names.lookup y = some .local)
    (hsw : swapsWith (.ListComp elt [⟨tg, iter, ifs, 0⟩] scope pos) (some (.Name y py)) spos.line X.env = pure true) (hi : DI X Z W tg iter it) (ok : BlkOk X.N X.env.scope scope own) (hv : ∀ i, i ∈ gvs → i ∈ own.map (·.2))
    (hg : ∀ s H C cl fp, DG (blkX X scope s H C cl fp) Z tg g gvs) (ht : ∀ s H C cl fp, DTs (blkX X scope s H C cl fp) Z WN ifs tt) (he : ∀ s H C cl fp, DE (blkX X scope s H C cl fp) Z WN elt te) (hs : ∀ x, foldedSetIterable iter X.env x = pure x := by intro _; rfl) :
    DS X Z W rel (.Assign [.Name y py] (.ListComp elt [⟨tg, iter, ifs, 0⟩] scope pos) spos) (sFl i (eLc it g tt te (own.map (·.2)))) :=
  ⟨fun pins s σ H D I q => (ps_setLc hc hN hy hyl hsw hi ok hg ht he hs).run pins s σ H D I (lc_turns hv (fun _ z => z) (setF_post hl I.len q))⟩
/-- a new list by a display -/
theorem df_lst {es : List Expr} {pos : Pos} {g : Env → R (List PyData)} (h : DAs X Z W es g) (hl : es.length ≤ 1000 := by decide) : DF X Z W (.List es pos) g := by
  refine PE_imp (pe_lst h) fun σ H Q ⟨ρ, G, O, R, P⟩ => ⟨ρ, G, O, R, ?_⟩
  cases e : g ρ with
  | bad =>
    rw [e] at P
    exact P.elim
  | er x ρ1 =>
    rw [e] at P
    exact P
  | ok ds ρ1 =>
    rw [e] at P
    intro vs G1 O1 H1 R1 S1 D1
    refine ⟨by rw [D1.1.len, D1.2]; exact sz1000 hl, fun p hp => ?_⟩
    have sp : Same H1 (upd H1 p (.lst vs)) := same_new hp
    have op : O1 p = none := by
      cases q : O1 p with
      | none => rfl
      | some o => exact absurd hp (R1.oh p (by rw [q]; exact fun z => nomatch z))
    have gp : G1 p = none := by
      cases q : G1 p with
      | none => rfl
      | some o =>
        rw [R1.gh _ _ q] at hp
        cases hp
    have back : ∀ b, (if b = p then some lim else O1 b) ≠ none → b = p ∨ O1 b ≠ none := fun b hb => by
      by_cases z : b = p
      · exact .inl z
      · rw [if_neg z] at hb
        exact .inr hb
    refine P (.ref p) G1 (fun b => if b = p then some lim else O1 b) _ ⟨R1.len, R1.gh.trans sp, fun b hb => ?_, fun b hb => ?_, fun i c hc => (R1.cell i c hc).keep (Same.refl _) (fun b hb => ?_) fun b o _ q => sp _ _ q⟩
      (S1.trans ⟨Same.refl _, fun b hb => .inl hb, fun b hb => ?_, fun b o e _ => sp _ _ e⟩) ⟨p, vs, rfl, if_pos rfl, upd_same, D1.1⟩
    · rcases back b hb with z | z
      · rw [z]; exact gp
      · exact R1.go b z
    · rcases back b hb with z | z
      · rw [z, upd_same]
        exact fun q => nomatch q
      · have := R1.oh b z
        cases q : H1 b with
        | none => exact absurd q this
        | some o =>
          rw [sp _ _ q]
          exact fun z => nomatch z
    · have : b ≠ p := fun z => by
        rw [z, op] at hb
        cases hb
      rw [if_neg this]
      exact hb
    · rcases back b hb with z | z
      · exact .inr (by rw [z]; exact hp)
      · exact .inl z
def sAsg (f : Env → R PyData) (g : TgF) : Env → FlR α := fun ρ => toF (f ρ) fun d ρ1 => match g d ρ1 with
  | some ρ2 => .nx ρ2
  | none => .bad
theorem s_asg {tg e : Expr} {f : Env → R PyData} {g : TgF} {vs : List Nat} {pos : Pos} (h : DE X Z W e f) (hg : DG X Z tg g vs) (hs : swapsWithSole [tg] e pos.line X.env = pure false := by rfl) (hw : swappedStores [tg] e X.env = pure none := by rfl)
    (h1 : (assignEach [tg] X.env).map (·.2) = [assign tg X.env] := by rfl) : DS X Z W rel (.Assign [tg] e pos) (sAsg f g) := by
  refine PS_imp (ps_asg h hg hs hw h1) fun D σ H ⟨ρ, G, O, R, P⟩ => ?_
  refine s_bind R P fun d ρ1 v G1 O1 H1 e1 R1 S1 D1 P1 => ?_
  cases e2 : g d ρ1 with
  | none =>
    rw [e2] at P1
    exact P1.elim
  | some ρ2 =>
    rw [e2] at P1
    exact ⟨ρ1, G1, O1, d, ρ2, R1, D1, e2, fun σ' _ R' => P1 σ' G1 O1 H1 R' Step.refl⟩
/-- x[i] = e, x an own list -/
def sSubL (i : Nat) (fi fe : Env → R PyData) : Env → FlR α := fun ρ => toF (fe ρ) fun d ρ1 => match ρ1[i]? with
  | some (.ol _ _) => toF (fi ρ1) fun k ρ2 => match ρ2[i]?, k with
    | some (.ol b ds), .int n => match ixN ds.length n with
      | some j => .nx (ρ2.set i (.ol b (ds.set j d)))
      | none => .bad
    | _, _ => .bad
  | _ => .bad
theorem s_subL {x : Str} {p tpos pos : Pos} {i : Nat} {ei e : Expr} {fi fe : Env → R PyData} (ha : PE X (.Name x p) (tVar i)) (hi : DE X Z W ei fi) (he : DE X Z W e fe)
    (hset : ∀ v, assign (.Subscript (.Name x p) ei tpos) X.env v = (do
      let ov ← holding [v] (eval (.Name x p) X.env)
      let iv ← holding [v, ov] (eval ei X.env)
      standAt tpos
      holding [v, ov, iv] (setItem ov iv v)
      release [v, ov, iv] []) := by intro _; rfl)
    (hs : swapsWithSole [.Subscript (.Name x p) ei tpos] e pos.line X.env = pure false := by rfl) (hw : swappedStores [.Subscript (.Name x p) ei tpos] e X.env = pure none := by rfl)
    (h1 : (assignEach [.Subscript (.Name x p) ei tpos] X.env).map (·.2) = [assign (.Subscript (.Name x p) ei tpos) X.env] := by rfl) :
    DS X Z W rel (.Assign [.Subscript (.Name x p) ei tpos] e pos) (sSubL i fi fe) := by
  refine PS_imp (ps_asg he (pg_sub ha hi set_list hset) hs hw h1) fun D σ H ⟨ρ, G, O, R, P⟩ => ?_
  refine s_bind R P fun d ρ1 v G1 O1 H1 e1 R1 S1 D1 P1 => ?_
  cases e2 : ρ1[i]? with
  | none => rw [e2] at P1; exact P1.elim
  | some c =>
    cases c with
    | ol b ds =>
      rw [e2] at P1
      obtain ⟨a, vs, q1, q2, q3, q4, q5, q6, q7⟩ := R1.own e2
      refine ⟨.ref a, q1, ?_⟩
      refine s_bind R1 P1 fun k ρ2 y G2 O2 H2 e3 R2 S2 D2 P2 => ?_
      cases e4 : ρ2[i]? with
      | none => rw [e4] at P2; exact P2.elim
      | some c =>
        cases c with
        | ol b2 ds2 =>
          rw [e4] at P2
          obtain ⟨a2, vs2, g1, g2, g3, g4, g5, g6, g7⟩ := R2.own e4
          rw [q1] at g1
          cases g1
          cases D2 with
          | int n =>
            have P2 : PostS Z W rel G2 O2 H2 D (match ixN ds2.length n with | some j => .nx (ρ2.set i (.ol b2 (ds2.set j d))) | none => .bad) := P2
            cases e5 : ixN ds2.length n with
            | none => rw [e5] at P2; exact P2.elim
            | some j =>
              rw [e5] at P2
              obtain ⟨R3, S3⟩ := R2.mut e4 q1 (DrL.set (D1.mono S2.gg) j g5)
              exact ⟨a, vs2, n, j, rfl, rfl, g4, by rw [g5.len]; exact e5, P2 _ _ _ _ R3 S3⟩
          | _ => exact P2.elim
        | _ => rw [e4] at P2; exact P2.elim
    | _ => rw [e2] at P1; exact P1.elim
/-- x += e -/
def augI (op : Operator) : Option (Int → Int → Int) := match op with
  | .Add => some (· + ·)
  | .Sub => some (· - ·)
  | _ => none
def sAug (g : Int → Int → Int) (i : Nat) (fe : Env → R PyData) : Env → FlR α := fun ρ => match ρ[i]? with
  | some (.fr (.int a)) => toF (fe ρ) fun d ρ1 => match d with
    | .int b => .nx (ρ1.set i (.fr (.int (g a b))))
    | _ => .bad
  | _ => .bad
theorem s_aug {i : Nat} {x : Str} {e : Expr} {fe : Env → R PyData} {op : Operator} {g : Int → Int → Int} {pos pos' : Pos} (hN : X.N.Nodup) (hi : X.N[i]? = some x) (hx : Loc X.env.scope x) (ho : PIp X op (ipI g)) (h : DE X Z W e fe) (hf : X.fn x = true ∨ X.env.scope.names.lookup x = some .local := by first | exact .inl rfl | exact .inr rfl | assumption) :
    DS X Z W rel (.AugAssign (.Name x pos') op e pos) (sAug g i fe) := by
  refine PS_imp (ps_aug hN hi hx h ho hf) fun D σ H ⟨ρ, G, O, R, P⟩ => ?_
  unfold sAug at P
  split at P
  · rename_i a ea
    obtain ⟨v, q1, q2⟩ := R.cell i _ ea
    cases q2
    refine ⟨_, q1, ?_⟩
    refine s_bind R P fun d ρ1 v G1 O1 H1 e1 R1 S1 D1 P1 => ?_
    cases D1 with
    | int b => exact ⟨a, b, rfl, rfl, P1 _ G1 O1 H1 (R1.fr (.int _)) Step.refl⟩
    | _ => exact P1.elim
  · exact P.elim
/-- x[i] += e, x an own list, i a constant that is no less than 0 -/
def rGetN : V → V → Hp → VK → Prop := fun o i H Q => ∃ p xs k x, o = .ref p ∧ i = .int k ∧ H p = some (.lst xs) ∧ 0 ≤ k ∧ k < 2 ^ 63 ∧ xs[k.toNat]? = some x ∧ Q x H
theorem get_listN : PGet X rGetN := by
  intro pins s σ H o i ov iv Q I ro ri h
  obtain ⟨p, xs, k, x, rfl, rfl, hp, h0, h1, hx, q⟩ := h
  cases ro
  obtain ⟨t, rfl⟩ := ri
  obtain ⟨its, r, pl, hz⟩ := I.list (SqL.of hp)
  obtain ⟨w, ew, rw'⟩ := r.get hx
  exact wpAny_getItem_list pl.isList h0 h1 (by simpa using ew) ⟨x, H, I, rw', q⟩
def sAugL (g : Int → Int → Int) (i : Nat) (k : Int) (fe : Env → R PyData) : Env → FlR α := fun ρ => match ρ[i]? with
  | some (.ol _ ds) => match ds[k.toNat]? with
    | some (.int a) => toF (fe ρ) fun d ρ1 => match ρ1[i]?, d with
      | some (.ol b es), .int z => if k.toNat < es.length then .nx (ρ1.set i (.ol b (es.set k.toNat (.int (g a z))))) else .bad
      | _, _ => .bad
    | _ => .bad
  | _ => .bad
theorem s_augL {x : Str} {p p2 tpos pos : Pos} {i : Nat} {k : Int} {j : Nat} {e : Expr} {fe : Env → R PyData} {op : Operator} {g : Int → Int → Int} (h0 : 0 ≤ k) (h1 : k < 1000) (ha : PE X (.Name x p) (tVar i)) (ho : PIp X op (ipI g)) (he : DE X Z W e fe)
    (hset : ∀ ov iv new, augStore (.Constant (.int k) j p2) ov iv new = (do holding [new, ov, iv] (setItem ov iv new); release [new, ov, iv] []; pure .next) := by intros; rfl) :
    DS X Z W rel (.AugAssign (.Subscript (.Name x p) (.Constant (.int k) j p2) tpos) op e pos) (sAugL g i k fe) := by
  refine PS_imp (ps_augS ha pe_int get_listN he ho set_list hset) fun D σ H ⟨ρ, G, O, R, P⟩ => ?_
  unfold sAugL at P
  split at P
  · rename_i b ds ed
    split at P
    · rename_i a ea
      obtain ⟨ad, vs, q1, q2, q3, q4, q5, q6, q7⟩ := R.own ed
      obtain ⟨v, ev, rv⟩ := q5.getD ea
      cases rv
      refine ⟨.ref ad, q1, ad, vs, k, _, rfl, rfl, q4, h0, by omega, ev, ?_⟩
      refine s_bind R P fun d ρ1 v G1 O1 H1 e1 R1 S1 D1 P1 => ?_
      cases e4 : ρ1[i]? with
      | none => rw [e4] at P1; exact P1.elim
      | some c =>
        cases c with
        | ol b2 es =>
          rw [e4] at P1
          cases D1 with
          | int z =>
            have P1 : PostS Z W rel G1 O1 H1 D (if k.toNat < es.length then .nx (ρ1.set i (.ol b2 (es.set k.toNat (.int (g a z))))) else .bad) := P1
            by_cases c : k.toNat < es.length
            · rw [if_pos c] at P1
              obtain ⟨a2, vs2, g1, g2, g3, g4, g5, g6, g7⟩ := R1.own e4
              rw [q1] at g1
              cases g1
              obtain ⟨R3, S3⟩ := R1.mut e4 q1 (DrL.set (.int (g a z)) k.toNat g5)
              refine ⟨a, z, rfl, rfl, ad, vs2, k, k.toNat, rfl, rfl, g4, ?_, P1 _ _ _ _ R3 S3⟩
              unfold ixN
              rw [if_pos h0, if_pos (by rw [g5.len]; omega)]
            · rw [if_neg c] at P1
              exact P1.elim
          | _ => exact P1.elim
        | _ => rw [e4] at P1; exact P1.elim
    · exact P.elim
  · exact P.elim
/-! ### loops -/
def forGo (g : TgF) (F : Env → FlR α) : List PyData → Env → FlR α
  | [], ρ => .nx ρ
  | d :: r, ρ => match g d ρ with
    | none => .bad
    | some ρ1 => match F ρ1 with
      | .nx ρ2 => forGo g F r ρ2
      | .ct ρ2 => forGo g F r ρ2
      | .bk ρ2 => .nx ρ2
      | .rt x ρ2 => .rt x ρ2
      | .er x ρ2 => .er x ρ2
      | .bad => .bad
def sFor (it : Env → R (List PyData)) (g : TgF) (F : Env → FlR α) : Env → FlR α := fun ρ => toF (it ρ) fun ds ρ1 => forGo g F ds ρ1
theorem s_for {tg iter : Expr} {body : List Stmt} {it : Env → R (List PyData)} {g : TgF} {vs : List Nat} {F : Env → FlR α} {pos : Pos} (hp : PassesOwn (model X.prog X.w) X.A X.env X.xe) (hc : X.calm = true) (hi : DI X Z W tg iter it) (hg : DG X Z tg g vs) (hb : DSs X Z W rel body F)
    (hs : ∀ x, foldedSetIterable iter X.env x = pure x := by intro _; rfl) : DS X Z W rel (.For tg iter body [] pos) (sFor it g F) := by
  refine PS_imp (ps_for hp hc hi hg hb hs) fun D σ H ⟨ρ, G, O, R, P⟩ => ?_
  refine s_bind R P fun ds ρ1 J G1 O1 H1 e1 R1 S1 D1 P1 => ?_
  refine ⟨fun i m σ H2 => m = ds.length - i ∧ i ≤ ds.length ∧ ∃ ρi Gi Oi, Rel Z ρi σ Gi Oi H2 ∧ Same G1 Gi ∧ PostS Z W rel Gi Oi H2 D (forGo g F (ds.drop i) ρi), ⟨ds.length, rfl, Nat.zero_le _, ρ1, G1, O1, R1, Same.refl _, P1⟩, ?_⟩
  rintro i m σ H2 ⟨rfl, hi, ρi, Gi, Oi, Ri, Si, Pi⟩
  obtain ⟨j1, j2, j3⟩ := (D1.mono Si) H2 Ri.gh
  by_cases hlt : i < ds.length
  case neg =>
    have ei : i = ds.length := by omega
    subst ei
    rw [List.drop_length] at Pi
    exact .inl ⟨j3, Pi _ _ _ _ Ri Step.refl⟩
  refine .inr ⟨j1 i hlt, fun σ H2 => ∃ ρi Gi Oi, Rel Z ρi σ Gi Oi H2 ∧ Same G1 Gi ∧ PostS Z W rel Gi Oi H2 D (forGo g F (ds.drop (i + 1)) ρi), fun σ' H' n' => ⟨ds.length - (i + 1), by omega, rfl, hlt, n'⟩, fun x H' hy => ?_⟩
  obtain ⟨s', d, ed, dr⟩ := j2 i x H' hlt hy
  have ed2 : ds.drop i = d :: ds.drop (i + 1) := by
    rw [List.drop_eq_getElem_cons hlt]
    rw [List.getElem?_eq_getElem hlt] at ed
    cases ed
    rfl
  rw [ed2] at Pi
  have Pi := PostS.step (Ri.stepGrow s') Pi
  unfold forGo at Pi
  cases ge : g d ρi with
  | none =>
    rw [ge] at Pi
    exact Pi.elim
  | some ρ3 =>
    rw [ge] at Pi
    dsimp only at Pi
    refine ⟨ρi, _, _, _, ρ3, Ri.grow s', dr, ge, fun σ2 sq R3 => ⟨ρ3, _, _, R3, ?_⟩⟩
    have gg : Same G1 (DL.grow Gi H2 H') := Si.trans grow_same
    cases eF : F ρ3 with
    | nx ρ4 =>
      rw [eF] at Pi
      exact fun σ' G' O' H'' R' S' => ⟨ρ4, G', O', R', gg.trans S'.gg, PostS.step S' Pi⟩
    | ct ρ4 =>
      rw [eF] at Pi
      exact fun σ' G' O' H'' R' S' => ⟨ρ4, G', O', R', gg.trans S'.gg, PostS.step S' Pi⟩
    | bk ρ4 =>
      rw [eF] at Pi
      exact fun σ' G' O' H'' R' S' => Pi σ' G' O' H'' R' S'
    | rt y ρ4 =>
      rw [eF] at Pi
      exact Pi
    | er y ρ4 =>
      rw [eF] at Pi
      exact Pi
    | bad =>
      rw [eF] at Pi
      exact Pi.elim
def whileGo (c : Env → R Bool) (F : Env → FlR α) : Nat → Env → FlR α
  | 0, _ => .bad
  | n + 1, ρ => toF (c ρ) fun b ρ1 => if b = true then match F ρ1 with
      | .nx ρ2 => whileGo c F n ρ2
      | .ct ρ2 => whileGo c F n ρ2
      | .bk ρ2 => .nx ρ2
      | .rt x ρ2 => .rt x ρ2
      | .er x ρ2 => .er x ρ2
      | .bad => .bad
    else .nx ρ1
def sWhile (n : Nat) (c : Env → R Bool) (F : Env → FlR α) : Env → FlR α := whileGo c F n
theorem s_while {c : Expr} {body : List Stmt} {fc : Env → R Bool} {F : Env → FlR α} {pos : Pos} (n : Nat) (hp : PassesOwn (model X.prog X.w) X.A X.env X.xe) (hc : DT X Z W c fc) (hb : DSs X Z W rel body F) : DS X Z W rel (.While c body [] pos) (sWhile n fc F) := by
  refine PS_imp (ps_while hp hc hb) fun D σ H ⟨ρ, G, O, R, P⟩ => ?_
  refine ⟨fun m σ H => ∃ ρ G O, Rel Z ρ σ G O H ∧ PostS Z W rel G O H D (whileGo fc F m ρ), ⟨n, ρ, G, O, R, P⟩, ?_⟩
  rintro m σ H ⟨ρ, G, O, R, P⟩
  cases m with
  | zero => exact P.elim
  | succ m =>
    refine s_bind R P fun b ρ1 v G1 O1 H1 e1 R1 S1 D1 P1 => ?_
    subst D1
    cases v with
    | false =>
      rw [if_neg Bool.false_ne_true] at P1 ⊢
      exact P1 _ _ _ _ R1 Step.refl
    | true =>
      rw [if_pos rfl] at P1 ⊢
      refine ⟨fun σ H => ∃ ρ G O, Rel Z ρ σ G O H ∧ PostS Z W rel G O H D (whileGo fc F m ρ), fun σ' H' n' => ⟨m, Nat.lt_succ_self _, n'⟩, ρ1, G1, O1, R1, ?_⟩
      cases eF : F ρ1 with
      | nx ρ4 =>
        rw [eF] at P1
        exact fun σ' G' O' H'' R' S' => ⟨ρ4, G', O', R', PostS.step S' P1⟩
      | ct ρ4 =>
        rw [eF] at P1
        exact fun σ' G' O' H'' R' S' => ⟨ρ4, G', O', R', PostS.step S' P1⟩
      | bk ρ4 =>
        rw [eF] at P1
        exact fun σ' G' O' H'' R' S' => P1 σ' G' O' H'' R' S'
      | rt y ρ4 =>
        rw [eF] at P1
        exact P1
      | er y ρ4 =>
        rw [eF] at P1
        exact P1
      | bad =>
        rw [eF] at P1
        exact P1.elim
end
end DL

/-! D8: defs, calls, instances. -/
namespace DL
open PySem PySem.Spec PyProof.Rows L2
/-- an argument: a value, or a slot whose own thing is lent, or a new list -/
inductive AV where
  | val (d : PyData)
  | own (i : Nat)
  | new (ds : List PyData)
  | ins (c : Nat) (fs : List (Str × PyData))
def AV.key : AV → Option Nat
  | .val _ => none
  | .own i => some i
  | .new _ => some lim
  | .ins _ _ => some lim
def pinC : Cell → Option Cell
  | .ol _ ds => some (.ol true ds)
  | .od _ kvs => some (.od true kvs)
  | .oi _ c fs => some (.oi true c fs)
  | _ => none
def cellAV (ρ : Env) : AV → Option Cell
  | .val d => some (.fr d)
  | .own i => (ρ[i]?).bind pinC
  | .new ds => some (.ol true ds)
  | .ins c fs => some (.oi true c fs)
def cellsAV (ρ : Env) : List AV → Option (List Cell)
  | [] => some []
  | a :: r => match cellAV ρ a, cellsAV ρ r with
    | some c, some cs => some (c :: cs)
    | _, _ => none
/-- what the caller's slot holds behind the call: b the cell ahead, c the callee's at the end -/
def unpin (b c : Cell) : Cell := match b, c with
  | .ol p _, .ol true ds => .ol p ds
  | .od p _, .od true ds => .od p ds
  | .oi p k _, .oi true k' fs => if k = k' then .oi p k fs else .no
  | _, _ => .no
def backAV (ρ ρ' : Env) : Nat → List AV → Env
  | _, [] => ρ
  | j, .own i :: r => (backAV ρ ρ' (j + 1) r).set i (unpin ((ρ[i]?).getD .no) ((ρ'[j]?).getD .no))
  | j, .val _ :: r => backAV ρ ρ' (j + 1) r
  | j, .new _ :: r => backAV ρ ρ' (j + 1) r
  | j, .ins _ _ :: r => backAV ρ ρ' (j + 1) r
/-- a new instance -/
def NewI (Z : Pm) : Hp → Own → Hp → V → Nat × List (Str × PyData) → Prop := fun G O H v d => ∃ a dx fvs, v = .ref a ∧ O a = some lim ∧ H a = some (.ins (Z.ct d.1) dx fvs) ∧ DrF Z.K G fvs d.2
def argRel (Z : Pm) (σ : L2.St) (G : Hp) (O : Own) (H : Hp) (v : V) : AV → Prop
  | .val d => Dr Z.K G v d
  | .own i => σ[i]? = some (some v)
  | .new ds => NewL Z G O H v ds
  | .ins c fs => NewI Z G O H v (c, fs)
def argsRel (Z : Pm) (σ : L2.St) (G : Hp) (O : Own) (H : Hp) : List V → List AV → Prop := Paired fun v a => argRel Z σ G O H v a
abbrev TAV (Z : Pm) (W : WX) (g : Env → R (List AV)) : TA := fun σ H Q => T_ Z W (argsRel Z σ) g σ H Q
abbrev DAV (X : Cx) (Z : Pm) (W : WX) (es : List Expr) (g : Env → R (List AV)) : Prop := PA X es (TAV Z W g)
def avNil : Env → R (List AV) := fun ρ => .ok [] ρ
def avCons (f : Env → R PyData) (g : Env → R (List AV)) : Env → R (List AV) := fun ρ => (f ρ).bind fun d ρ1 => (g ρ1).bind fun ds ρ2 => if ds.all (fun a => match a with | .new _ => false | .ins _ _ => false | _ => true) = true then .ok (.val d :: ds) ρ2 else .bad
def avOwn (i : Nat) (g : Env → R (List AV)) : Env → R (List AV) := fun ρ => match (ρ[i]?).bind pinC with
  | some _ => (g ρ).bind fun ds ρ2 => .ok (.own i :: ds) ρ2
  | none => .bad
def avNew (f : Env → R (List PyData)) : Env → R (List AV) := fun ρ => (f ρ).bind fun d ρ1 => .ok [.new d] ρ1
section
variable {X : Cx} {Z : Pm} {W : WX}
theorem pin_at {ρ : Env} {σ : L2.St} {G : Hp} {O : Own} {H : Hp} (R : Rel Z ρ σ G O H) {i : Nat} {c : Cell} (h : (ρ[i]?).bind pinC = some c) : ∃ a, σ[i]? = some (some (.ref a)) ∧ O a = some i := by
  cases e : ρ[i]? with
  | none => rw [e] at h; cases h
  | some c' =>
    rw [e] at h
    cases c' with
    | ol b ds =>
      obtain ⟨a, vs, q1, q2, _⟩ := R.cell i _ e
      exact ⟨a, q1, q2⟩
    | od b ds =>
      obtain ⟨a, q1, q2, _⟩ := R.cell i _ e
      exact ⟨a, q1, q2⟩
    | oi b c fs =>
      obtain ⟨a, dx, fvs, q1, q2, _⟩ := R.cell i _ e
      exact ⟨a, q1, q2⟩
    | _ => cases h
theorem dav_nil : DAV X Z W [] avNil := PA_imp pa_nil fun σ H Q ⟨ρ, G, O, R, P⟩ => P [] G O H R Step.refl .nil
theorem dav_cons {e : Expr} {es : List Expr} {f : Env → R PyData} {g : Env → R (List AV)} (h1 : DE X Z W e f) (h2 : DAV X Z W es g) (hs : starEach (e :: es) X.env = (false, eval e X.env) :: starEach es X.env := by rfl) : DAV X Z W (e :: es) (avCons f g) := by
  refine PA_imp (pa_cons h1 h2 hs) fun σ H Q ⟨ρ, G, O, R, P⟩ => ?_
  refine t_bind R P fun d ρ1 v G1 O1 H1 e1 R1 S1 D1 P1 => ?_
  refine t_bind R1 P1 fun ds ρ2 vs G2 O2 H2 e2 R2 S2 D2 P2 => ?_
  split at P2
  · exact P2 _ G2 O2 H2 R2 Step.refl (.cons (D1.mono S2.gg) D2)
  · exact P2.elim
theorem dav_own {x : Str} {p : Pos} {es : List Expr} {i : Nat} {g : Env → R (List AV)} (h1 : PE X (.Name x p) (tVar i)) (h2 : DAV X Z W es g) (hs : starEach (.Name x p :: es) X.env = (false, eval (.Name x p) X.env) :: starEach es X.env := by rfl) : DAV X Z W (.Name x p :: es) (avOwn i g) := by
  refine PA_imp (pa_cons h1 h2 hs) fun σ H Q ⟨ρ, G, O, R, P⟩ => ?_
  unfold avOwn at P
  cases e : (ρ[i]?).bind pinC with
  | none => rw [e] at P; exact P.elim
  | some c =>
    rw [e] at P
    obtain ⟨a, q1, q2⟩ := pin_at R e
    refine ⟨.ref a, q1, ?_⟩
    refine t_bind R P fun ds ρ2 vs G2 O2 H2 e2 R2 S2 D2 P2 => ?_
    exact P2 _ G2 O2 H2 R2 Step.refl (.cons q1 D2)
theorem dav_new {e : Expr} {f : Env → R (List PyData)} (h1 : DF X Z W e f) (hs : starEach [e] X.env = (false, eval e X.env) :: starEach [] X.env := by rfl) : DAV X Z W [e] (avNew f) := by
  refine PA_imp (pa_cons h1 pa_nil hs) fun σ H Q ⟨ρ, G, O, R, P⟩ => ?_
  refine t_bind R P fun d ρ1 v G1 O1 H1 e1 R1 S1 D1 P1 => ?_
  exact P1 _ G1 O1 H1 R1 Step.refl (.cons D1 .nil)

/-! ### lending -/
def posOf : List AV → Nat → Nat → Option Nat
  | [], _, _ => none
  | a :: r, j, k => if a.key = some k then some j else posOf r (j + 1) k
def lent (avs : List AV) (vs : List V) (O : Own) : Own := fun a => match O a with
  | none => none
  | some k => match posOf avs 0 k with
    | none => none
    | some j => if vs[j]? = some (.ref a) then some j else none
def given (avs : List AV) (O O' : Own) : Own := fun a => if O' a = some lim then some lim else match O a with
    | none => none
    | some k => match posOf avs 0 k with
      | none => some k
      | some j => if O' a = some j then some k else none
def keysOk (avs : List AV) : Bool := decide ((avs.filterMap AV.key).Nodup)
theorem pos_some : ∀ {avs : List AV} {n k j : Nat}, posOf avs n k = some j → n ≤ j ∧ ∃ a, avs[j - n]? = some a ∧ a.key = some k
  | [], _, _, _, h => by cases h
  | a :: r, n, k, j, h => by
    unfold posOf at h
    split at h
    · rename_i c
      cases h
      exact ⟨Nat.le_refl _, a, by simp, c⟩
    · obtain ⟨h1, x, h2, h3⟩ := pos_some h
      refine ⟨by omega, x, ?_, h3⟩
      rw [show j - n = (j - (n + 1)) + 1 by omega]
      simpa using h2
theorem pos_at : ∀ {avs : List AV} {n k j : Nat} {a : AV}, (avs.filterMap AV.key).Nodup → avs[j]? = some a → a.key = some k → posOf avs n k = some (n + j)
  | [], _, _, _, _, _, h, _ => by simp at h
  | x :: r, n, k, 0, a, hn, h, hk => by
    simp at h
    subst h
    unfold posOf
    rw [if_pos hk]
    rfl
  | x :: r, n, k, j + 1, a, hn, h, hk => by
    have hr : r[j]? = some a := by simpa using h
    have hm : k ∈ r.filterMap AV.key := List.mem_filterMap.mpr ⟨a, List.mem_of_getElem? hr, hk⟩
    unfold posOf
    by_cases c : x.key = some k
    · rw [List.filterMap_cons_some c, List.nodup_cons] at hn
      exact absurd hm hn.1
    · rw [if_neg c]
      have hn' : (r.filterMap AV.key).Nodup := by
        cases e : x.key with
        | none => rwa [List.filterMap_cons_none e] at hn
        | some y =>
          rw [List.filterMap_cons_some e, List.nodup_cons] at hn
          exact hn.2
      rw [pos_at hn' hr hk]
      congr 1
      omega
theorem pos_none {avs : List AV} {n k : Nat} (h : posOf avs n k = none) : ∀ a ∈ avs, a.key ≠ some k := by
  induction avs generalizing n with
  | nil => intro a h; cases h
  | cons x r ih =>
    unfold posOf at h
    split at h
    · cases h
    · rename_i c
      intro a ha
      rcases List.mem_cons.mp ha with rfl | ha
      · exact c
      · exact ih h a ha
theorem cellsAV_len {ρ : Env} : ∀ {avs : List AV} {cs : List Cell}, cellsAV ρ avs = some cs → cs.length = avs.length
  | [], cs, h => by cases h; rfl
  | a :: r, cs, h => by
    unfold cellsAV at h
    split at h
    · rename_i c cs' _ e2
      cases h
      exact congrArg (· + 1) (cellsAV_len e2)
    · cases h
theorem cellsAV_get {ρ : Env} : ∀ {avs : List AV} {cs : List Cell} {j : Nat} {c : Cell}, cellsAV ρ avs = some cs → cs[j]? = some c → ∃ a, avs[j]? = some a ∧ cellAV ρ a = some c
  | [], cs, j, c, h, e => by cases h; simp at e
  | a :: r, cs, j, c, h, e => by
    unfold cellsAV at h
    split at h
    · rename_i c' cs' e1 e2
      cases h
      cases j with
      | zero =>
        simp at e
        subst e
        exact ⟨a, rfl, e1⟩
      | succ j =>
        obtain ⟨x, q1, q2⟩ := cellsAV_get e2 (by simpa using e : cs'[j]? = some c)
        exact ⟨x, by simpa using q1, q2⟩
    · cases h
theorem paired_at {α β : Type} {F : α → β → Prop} : ∀ {l₁ : List α} {l₂ : List β} {j : Nat} {b : β}, Paired F l₁ l₂ → l₂[j]? = some b → ∃ a, l₁[j]? = some a ∧ F a b
  | _, _, _, _, .nil, h => by simp at h
  | _, _, 0, _, .cons h t, e => by
    simp at e
    subst e
    exact ⟨_, rfl, h⟩
  | _, _, j + 1, b, .cons h t, e => by
    obtain ⟨a, q1, q2⟩ := paired_at (j := j) (b := b) t (by simpa using e)
    exact ⟨a, by simpa using q1, q2⟩
/-- where the callee starts -/
theorem lend {ρ : Env} {σ : L2.St} {G : Hp} {O : Own} {H : Hp} (R : Rel Z ρ σ G O H) {vs : List V} {avs : List AV} {cs : List Cell} (A : argsRel Z σ G O H vs avs) (hk : keysOk avs = true) (hc : cellsAV ρ avs = some cs) :
    Rel ⟨Z.K, Z.ct, fun j => match vs[j]? with | some (.ref a) => a | _ => 0⟩ cs (vs.map some) G (lent avs vs O) H := by
  have hk : (avs.filterMap AV.key).Nodup := of_decide_eq_true hk
  have back : ∀ b, lent avs vs O b ≠ none → O b ≠ none := fun b hb z => by
    unfold lent at hb
    rw [z] at hb
    exact hb rfl
  refine ⟨by rw [cellsAV_len hc, List.length_map, Paired.length A], R.gh, fun b hb => R.go b (back b hb), fun b hb => R.oh b (back b hb), fun j c e => ?_⟩
  obtain ⟨a, e1, e2⟩ := cellsAV_get hc e
  obtain ⟨v, ev, ra⟩ := paired_at A e1
  have es : (vs.map some)[j]? = some (some v) := by rw [List.getElem?_map, ev]; rfl
  have own : ∀ b k, v = .ref b → O b = some k → a.key = some k → lent avs vs O b = some j := fun b k hv ho ha => by
    unfold lent
    rw [ho]
    dsimp only
    rw [pos_at hk e1 ha, Nat.zero_add]
    dsimp only
    rw [if_pos (by rw [ev, hv])]
  cases a with
  | val d =>
    cases e2
    exact ⟨v, es, ra⟩
  | new ds =>
    cases e2
    obtain ⟨b, ws, rfl, ho, hh, r⟩ := ra
    exact ⟨b, ws, es, own b lim rfl ho rfl, hh, r, fun _ => by dsimp only; rw [ev]⟩
  | ins c fs =>
    cases e2
    obtain ⟨b, dx, ws, rfl, ho, hh, r⟩ := ra
    exact ⟨b, dx, ws, es, own b lim rfl ho rfl, hh, r, fun _ => by dsimp only; rw [ev]⟩
  | own i =>
    have ra : σ[i]? = some (some v) := ra
    have e2 : (ρ[i]?).bind pinC = some c := e2
    cases ei : ρ[i]? with
    | none => rw [ei] at e2; cases e2
    | some c' =>
      rw [ei] at e2
      cases c' with
      | ol b ds =>
        cases e2
        obtain ⟨x, ws, q1, q2, q3, q4, q5⟩ := R.cell i _ ei
        rw [ra] at q1
        cases q1
        exact ⟨x, ws, es, own x i rfl q2 rfl, q3, q4, fun _ => by dsimp only; rw [ev]⟩
      | od b ds =>
        cases e2
        obtain ⟨x, q1, q2, q3, q5⟩ := R.cell i _ ei
        rw [ra] at q1
        cases q1
        exact ⟨x, es, own x i rfl q2 rfl, q3, fun _ => by dsimp only; rw [ev]⟩
      | oi b k fs =>
        cases e2
        obtain ⟨x, dx, ws, q1, q2, q3, q4, q5⟩ := R.cell i _ ei
        rw [ra] at q1
        cases q1
        exact ⟨x, dx, ws, es, own x i rfl q2 rfl, q3, q4, fun _ => by dsimp only; rw [ev]⟩
      | _ => cases e2
theorem backAV_len (ρ ρ' : Env) : ∀ (avs : List AV) (j : Nat), (backAV ρ ρ' j avs).length = ρ.length
  | [], _ => rfl
  | .own i :: r, j => by rw [backAV, List.length_set, backAV_len ρ ρ' r]
  | .val _ :: r, j => by rw [backAV, backAV_len ρ ρ' r]
  | .new _ :: r, j => by rw [backAV, backAV_len ρ ρ' r]
  | .ins _ _ :: r, j => by rw [backAV, backAV_len ρ ρ' r]
theorem backAV_get (ρ ρ' : Env) : ∀ (avs : List AV) (n i : Nat), (avs.filterMap AV.key).Nodup → i < lim → (backAV ρ ρ' n avs)[i]? = match posOf avs n i with
    | none => ρ[i]?
    | some j => if i < ρ.length then some (unpin ((ρ[i]?).getD .no) ((ρ'[j]?).getD .no)) else none
  | [], _, _, _, _ => rfl
  | .val d :: r, n, i, hn, hi => by
    unfold backAV posOf
    rw [if_neg (fun z => nomatch z)]
    exact backAV_get ρ ρ' r (n + 1) i (by rwa [List.filterMap_cons_none (f := AV.key) rfl] at hn) hi
  | .new d :: r, n, i, hn, hi => by
    unfold backAV posOf
    rw [if_neg (fun z => by have := Option.some.inj z; omega)]
    rw [List.filterMap_cons_some (f := AV.key) rfl, List.nodup_cons] at hn
    exact backAV_get ρ ρ' r (n + 1) i hn.2 hi
  | .ins _ _ :: r, n, i, hn, hi => by
    unfold backAV posOf
    rw [if_neg (fun z => by have := Option.some.inj z; omega)]
    rw [List.filterMap_cons_some (f := AV.key) rfl, List.nodup_cons] at hn
    exact backAV_get ρ ρ' r (n + 1) i hn.2 hi
  | .own k :: r, n, i, hn, hi => by
    unfold backAV posOf
    rw [List.filterMap_cons_some (f := AV.key) rfl, List.nodup_cons] at hn
    have ih := backAV_get ρ ρ' r (n + 1) i hn.2 hi
    by_cases e : k = i
    · subst e
      rw [if_pos (show (AV.own k).key = some k from rfl)]
      dsimp only
      by_cases hl : k < ρ.length
      · rw [List.getElem?_set_self (by rw [backAV_len]; exact hl), if_pos hl]
      · rw [List.getElem?_eq_none (by rw [List.length_set, backAV_len]; omega), if_neg hl]
    · rw [List.getElem?_set_ne e, if_neg (show ¬ (AV.own k).key = some i from fun z => e (Option.some.inj z))]
      exact ih
/-- behind the call -/
theorem giveBack {ρ ρ' : Env} {σ τ : L2.St} {G G' : Hp} {O O' : Own} {H H' : Hp} {P : Nat → Addr} (R : Rel Z ρ σ G O H) {vs : List V} {avs : List AV} {cs : List Cell} (A : argsRel Z σ G O H vs avs) (hk : keysOk avs = true) (hc : cellsAV ρ avs = some cs) (hl : ρ.length ≤ lim) (ha : avs.length ≤ 1000)
    (hP : P = fun j => match vs[j]? with | some (.ref a) => a | _ => 0) (R' : Rel ⟨Z.K, Z.ct, P⟩ ρ' τ G' O' H') (S : Step G (lent avs vs O) H G' O' H') :
    Rel Z (backAV ρ ρ' 0 avs) σ G' (given avs O O') H' ∧ Step G O H G' (given avs O O') H' ∧ (∀ a, O' a = some lim → given avs O O' a = some lim) := by
  have hk : (avs.filterMap AV.key).Nodup := of_decide_eq_true hk
  have lo : ∀ b, lent avs vs O b ≠ none → O b ≠ none := fun b hb z => by
    unfold lent at hb
    rw [z] at hb
    exact hb rfl
  have ln : ∀ b k, O b = some k → posOf avs 0 k = none → lent avs vs O b = none := fun b k e1 e2 => by
    unfold lent
    rw [e1]
    dsimp only
    rw [e2]
  have gc : ∀ b, given avs O O' b ≠ none → O' b = some lim ∨ (∃ k, O b = some k ∧ ((posOf avs 0 k = none) ∨ ∃ j, posOf avs 0 k = some j ∧ O' b = some j)) := fun b hb => by
    unfold given at hb
    by_cases c : O' b = some lim
    · exact .inl c
    · rw [if_neg c] at hb
      cases e1 : O b with
      | none =>
        rw [e1] at hb
        exact absurd rfl hb
      | some k =>
        rw [e1] at hb
        dsimp only at hb
        cases e2 : posOf avs 0 k with
        | none => exact .inr ⟨k, rfl, .inl e2⟩
        | some j =>
          rw [e2] at hb
          dsimp only at hb
          by_cases c : O' b = some j
          · exact .inr ⟨k, rfl, .inr ⟨j, e2, c⟩⟩
          · rw [if_neg c] at hb
            exact absurd rfl hb
  have un : ∀ b k, O b = some k → posOf avs 0 k = none → O' b = none := fun b k e1 e2 => by
    cases z : O' b with
    | none => rfl
    | some w =>
      rcases S.oo b (by rw [z]; exact fun z => nomatch z) with y | y
      · exact absurd (ln b k e1 e2) y
      · exact absurd y (R.oh b (by rw [e1]; exact fun z => nomatch z))
  have g1 : ∀ b k, O b = some k → posOf avs 0 k = none → given avs O O' b = some k := fun b k e2 e3 => by
    unfold given
    rw [if_neg (by rw [un b k e2 e3]; exact fun z => nomatch z), e2]
    dsimp only
    rw [e3]
  have g2 : ∀ b k j, O b = some k → posOf avs 0 k = some j → O' b = some j → given avs O O' b = some k := fun b k j e2 e3 e4 => by
    unfold given
    have hj : j < 1000 := by
      obtain ⟨_, av, ea, _⟩ := pos_some e3
      have := (List.getElem?_eq_some_iff.mp ea).1
      omega
    rw [if_neg (by
      rw [e4]
      intro z
      have := Option.some.inj z
      rw [this] at hj
      exact absurd hj (by decide)), e2]
    dsimp only
    rw [e3]
    dsimp only
    rw [if_pos e4]
  have g3 : ∀ a, O' a = some lim → given avs O O' a = some lim := fun a e1 => by
    unfold given
    rw [if_pos e1]
  refine ⟨⟨by rw [backAV_len]; exact R.len, R'.gh, fun b hb => ?_, fun b hb => ?_, fun i c e => ?_⟩, ⟨S.gg, fun b hb => ?_, fun b hb => ?_, fun b o e n => ?_⟩, g3⟩
  · rcases gc b hb with q2 | ⟨k, q2, q3⟩
    · exact R'.go b (by rw [q2]; exact fun z => nomatch z)
    · rcases q3 with q3 | ⟨j, q3, q4⟩
      · cases z : G' b with
        | none => rfl
        | some w =>
          rcases S.gn b (by rw [z]; exact fun z => nomatch z) with y | y | y
          · exact absurd (R.go b (by rw [q2]; exact fun z => nomatch z)) y
          · exact absurd (ln b k q2 q3) y
          · exact absurd y (R.oh b (by rw [q2]; exact fun z => nomatch z))
      · exact R'.go b (by rw [q4]; exact fun z => nomatch z)
  · rcases gc b hb with q2 | ⟨k, q2, q3⟩
    · exact R'.oh b (by rw [q2]; exact fun z => nomatch z)
    · rcases q3 with q3 | ⟨j, q3, q4⟩
      · cases q1 : H b with
        | none => exact absurd q1 (R.oh b (by rw [q2]; exact fun z => nomatch z))
        | some o =>
          rw [S.fr b o q1 (ln b k q2 q3)]
          exact fun z => nomatch z
      · exact R'.oh b (by rw [q4]; exact fun z => nomatch z)
  · have hi : i < ρ.length := by
      have := (List.getElem?_eq_some_iff.mp e).1
      rwa [backAV_len] at this
    rw [backAV_get ρ ρ' avs 0 i hk (by omega)] at e
    cases ep : posOf avs 0 i with
    | none =>
      rw [ep] at e
      dsimp only at e
      exact (R.cell i c e).keep S.gg (fun b hb => g1 b i hb ep) fun b o hb ho => S.fr b o ho (ln b i hb ep)
    | some j =>
      rw [ep] at e
      dsimp only at e
      rw [if_pos hi] at e
      cases e
      obtain ⟨_, av, ea, ek⟩ := pos_some ep
      rw [Nat.sub_zero] at ea
      obtain ⟨v, ev, ra⟩ := paired_at A ea
      have eav : av = .own i := by
        cases av with
        | val d => cases ek
        | own i' => cases ek; rfl
        | new d =>
          have := Option.some.inj ek
          omega
        | ins c d =>
          have := Option.some.inj ek
          omega
      subst eav
      have ra : σ[i]? = some (some v) := ra
      have hPj : ∀ a, v = .ref a → P j = a := fun a ha => by
        rw [hP]
        dsimp only
        rw [ev, ha]
      rw [List.getElem?_eq_getElem hi]
      show CellOk Z σ G' (given avs O O') H' i (unpin ρ[i] ((ρ'[j]?).getD .no))
      have e0 : ρ[i]? = some ρ[i] := List.getElem?_eq_getElem hi
      generalize ρ[i] = c0 at e0
      cases ec : ρ'[j]? with
      | none =>
        show CellOk Z σ G' (given avs O O') H' i (unpin c0 .no)
        cases c0 <;> trivial
      | some c1 =>
        show CellOk Z σ G' (given avs O O') H' i (unpin c0 c1)
        cases c0 with
        | ol p ds0 =>
          obtain ⟨a0, vs0, r1, r2, r3, r4, r5⟩ := R.cell i _ e0
          rw [ra] at r1
          cases r1
          cases c1 with
          | ol q ds =>
            cases q with
            | true =>
              obtain ⟨a, ws, w1, w2, w3, w4, w5⟩ := R'.cell j _ ec
              have ea : a0 = a := (hPj a0 rfl).symm.trans (w5 rfl)
              subst ea
              exact ⟨a0, ws, ra, g2 a0 i j r2 ep w2, w3, w4, r5⟩
            | false => trivial
          | _ => trivial
        | od p ds0 =>
          obtain ⟨a0, r1, r2, r3, r5⟩ := R.cell i _ e0
          rw [ra] at r1
          cases r1
          obtain ⟨kv0, r3, r4⟩ := r3
          cases c1 with
          | od q ds =>
            cases q with
            | true =>
              obtain ⟨a, w1, w2, w3, w5⟩ := R'.cell j _ ec
              have ea : a0 = a := (hPj a0 rfl).symm.trans (w5 rfl)
              subst ea
              exact ⟨a0, ra, g2 a0 i j r2 ep w2, w3, r5⟩
            | false => trivial
          | _ => trivial
        | oi p k fs0 =>
          obtain ⟨a0, dx, vs0, r1, r2, r3, r4, r5⟩ := R.cell i _ e0
          rw [ra] at r1
          cases r1
          cases c1 with
          | oi q k' fs =>
            cases q with
            | true =>
              obtain ⟨a, dx', ws, w1, w2, w3, w4, w5⟩ := R'.cell j _ ec
              have ea : a0 = a := (hPj a0 rfl).symm.trans (w5 rfl)
              subst ea
              unfold unpin
              dsimp only
              split
              · rename_i hkk
                subst hkk
                exact ⟨a0, dx', ws, ra, g2 a0 i j r2 ep w2, w3, w4, r5⟩
              · trivial
            | false => trivial
          | _ => trivial
        | _ => trivial
  · rcases S.gn b hb with z | z | z
    · exact .inl z
    · exact .inr (.inl (lo b z))
    · exact .inr (.inr z)
  · rcases gc b hb with q1 | ⟨k, q2, _⟩
    · rcases S.oo b (by rw [q1]; exact fun z => nomatch z) with y | y
      · exact .inl (lo b y)
      · exact .inr y
    · exact .inl (by rw [q2]; exact fun z => nomatch z)
  · refine S.fr b o e ?_
    unfold lent
    rw [n]

/-! ### promises -/
def PostF {α : Type} (Z : Pm) (rel : Hp → Own → Hp → V → α → Prop) (G : Hp) (O : Own) (H : Hp) (Q : VK) (E : XK) : R α → Prop
  | .ok d ρ' => ∀ v τ G' O' H', Rel Z ρ' τ G' O' H' → Step G O H G' O' H' → rel G' O' H' v d → Q v H'
  | .er x ρ' => ∀ c od τ G' O' H', Rel Z ρ' τ G' O' H' → Step G O H G' O' H' → ExIs Z G' x c od → E c od H'
  | .bad => False
/-- a def's promise -/
def spF {α : Type} (K : PySem.W.Frag) (ct : Nat → Addr) (rel : Hp → Own → Hp → V → α → Prop) (n : Nat) (F : Env → R α) : Sp := fun vs H Q E =>
  vs.length = n ∧ ∃ P cs G O, Rel ⟨K, ct, P⟩ cs (vs.map some) G O H ∧ PostF ⟨K, ct, P⟩ rel G O H Q E (F cs)
def fnF {α : Type} (m : Nat) (S : Env → FlR α) : Env → R α := fun cs => match S (cs ++ List.replicate m .no) with
  | .rt d ρ => .ok d ρ
  | .er x ρ => .er x ρ
  | _ => .bad
/-- .. that may end without return -/
def fnN (m : Nat) (S : Env → FlR PyData) : Env → R PyData := fun cs => match S (cs ++ List.replicate m .no) with
  | .rt d ρ => .ok d ρ
  | .nx ρ => .ok .none ρ
  | .er x ρ => .er x ρ
  | _ => .bad
theorem rel_start {N : List Str} {vs : List V} {cs : List Cell} {G : Hp} {O : Own} {H : Hp} {m : Nat} (R : Rel Z cs (vs.map some) G O H) (hN : N.length = vs.length + m) : Rel Z (cs ++ List.replicate m .no) (L2.start N vs) G O H := by
  have hl : cs.length = vs.length := by rw [R.len, List.length_map]
  refine ⟨by unfold L2.start; simp [hl, hN], R.gh, R.go, R.oh, fun i c e => ?_⟩
  by_cases h : i < cs.length
  · rw [List.getElem?_append_left h] at e
    refine (R.cell i c e).st ?_
    unfold L2.start
    rw [List.getElem?_append_left (by rw [List.length_map]; omega)]
  · rw [List.getElem?_append_right (by omega)] at e
    rw [List.getElem?_replicate] at e
    split at e
    · cases e
      trivial
    · cases e
section
variable {α : Type} {P : Program} {w : World} {K : PySem.W.Frag} {mg : Str → Option Value} {base : Heap} {ct : Nat → Addr} {rel : Hp → Own → Hp → V → α → Prop}
theorem fun_ok {x qual : Str} {st : Stmt} {f : Addr} {fd : FuncData} {N ps : List Str} {k m : Nat} {Sf : Env → FlR α} (F : Fun K x qual st f fd) (S : FnScope N ps (defScope st)) (hN : N.length = ps.length + m)
    (hbody : ∀ (Pp : Nat → Addr) (cdv : Value) (A : Around) (outer : List PySem.Env) (s : Shared) (H : Hp) (E : XK), Room k (A.deeper (envOfC qual (defScope st) s.heap.objs.size f cdv)) →
      DSs (cxOf (L2.CX P w) P w K mg base N qual (defScope st) f cdv A outer s H E) ⟨K, ct, Pp⟩ (fun c od _ H => E c od H) rel (defBody st) Sf) : FnOk P w K mg base (L2.CX P w) (k + 1) f fd ps (spF K ct rel ps.length (fnF m Sf)) := by
  refine F.okX S (fun vs H Q E h => h.1) fun cdv A outer s H vs Q E hr h => ?_
  obtain ⟨hl, Pp, cs, G, O, R, Po⟩ := h
  refine ⟨_, hbody Pp cdv A outer s H E hr, _, G, O, rel_start R (by rw [hN, hl]), ?_⟩
  unfold fnF at Po
  cases e : Sf (cs ++ List.replicate m .no) with
  | rt d ρ =>
    rw [e] at Po
    exact Po
  | er x ρ =>
    rw [e] at Po
    exact Po
  | _ => rw [e] at Po; exact Po.elim
theorem fun_okN {x qual : Str} {st : Stmt} {f : Addr} {fd : FuncData} {N ps : List Str} {k m : Nat} {Sf : Env → FlR PyData} (F : Fun K x qual st f fd) (S : FnScope N ps (defScope st)) (hN : N.length = ps.length + m)
    (hbody : ∀ (Pp : Nat → Addr) (cdv : Value) (A : Around) (outer : List PySem.Env) (s : Shared) (H : Hp) (E : XK), Room k (A.deeper (envOfC qual (defScope st) s.heap.objs.size f cdv)) →
      DSs (cxOf (L2.CX P w) P w K mg base N qual (defScope st) f cdv A outer s H E) ⟨K, ct, Pp⟩ (fun c od _ H => E c od H) (fun G _ _ v d => Dr K G v d) (defBody st) Sf) : FnOk P w K mg base (L2.CX P w) (k + 1) f fd ps (spF K ct (fun G _ _ v d => Dr K G v d) ps.length (fnN m Sf)) := by
  refine F.okX S (fun vs H Q E h => h.1) fun cdv A outer s H vs Q E hr h => ?_
  obtain ⟨hl, Pp, cs, G, O, R, Po⟩ := h
  refine ⟨_, hbody Pp cdv A outer s H E hr, _, G, O, rel_start R (by rw [hN, hl]), ?_⟩
  unfold fnN at Po
  cases e : Sf (cs ++ List.replicate m .no) with
  | rt d ρ =>
    rw [e] at Po
    exact Po
  | nx ρ =>
    rw [e] at Po
    exact fun τ G' O' H' R' S' => Po .non τ G' O' H' R' S' .non
  | er x ρ =>
    rw [e] at Po
    exact Po
  | _ => rw [e] at Po; exact Po.elim
end
/-! ### calls -/
def runF {α : Type} (F : Env → R α) (avs : List AV) (ρ1 : Env) : R α := if keysOk avs = true then match cellsAV ρ1 avs with
    | some cs => match F cs with
      | .ok d ρ' => .ok d (backAV ρ1 ρ' 0 avs)
      | .er x ρ' => .er x (backAV ρ1 ρ' 0 avs)
      | .bad => .bad
    | none => .bad
  else .bad
def eCallF {α : Type} (n : Nat) (F : Env → R α) (g : Env → R (List AV)) : Env → R α := fun ρ => (g ρ).bind fun avs ρ1 => if avs.length = n then runF F avs ρ1 else .bad
theorem call_post {α : Type} {rel : Hp → Own → Hp → V → α → Prop} {ρ1 : Env} {σ : L2.St} {G1 : Hp} {O1 : Own} {H1 : Hp} {Q : VK} {vs : List V} {avs : List AV} {F : Env → R α} {n : Nat} (hn : avs.length = n) (hn2 : n ≤ 1000)
    (hrel : ∀ {G : Hp} {O O' : Own} {H : Hp} {v : V} {d : α}, (∀ a, O a = some lim → O' a = some lim) → rel G O H v d → rel G O' H v d) (hl : X.N.length ≤ lim) (hσ : σ.length = X.N.length) (R1 : Rel Z ρ1 σ G1 O1 H1) (A : argsRel Z σ G1 O1 H1 vs avs)
    (P1 : Post Z W rel σ G1 O1 H1 Q (runF F avs ρ1)) : spF Z.K Z.ct rel n F vs H1 Q (WE W σ) := by
  unfold runF at P1
  by_cases hk : keysOk avs = true
  case neg =>
    rw [if_neg hk] at P1
    exact P1.elim
  rw [if_pos hk] at P1
  cases hc : cellsAV ρ1 avs with
  | none =>
    rw [hc] at P1
    exact P1.elim
  | some cs =>
    rw [hc] at P1
    dsimp only at P1
    refine ⟨by rw [Paired.length A, hn], _, cs, G1, _, lend R1 A hk hc, ?_⟩
    have hlen : ρ1.length ≤ lim := by rw [R1.len, hσ]; exact hl
    cases eF : F cs with
    | bad =>
      rw [eF] at P1
      exact P1.elim
    | ok d ρ' =>
      rw [eF] at P1
      intro v τ G' O' H' R' S' D'
      obtain ⟨R2, S2, g⟩ := giveBack R1 A hk hc hlen (by rw [hn]; exact hn2) rfl R' S'
      exact P1 v G' _ H' R2 S2 (hrel g D')
    | er x ρ' =>
      rw [eF] at P1
      intro c od τ G' O' H' R' S' D'
      obtain ⟨R2, S2, g⟩ := giveBack R1 A hk hc hlen (by rw [hn]; exact hn2) rfl R' S'
      exact P1 c od G' _ H' R2 S2 D'
/-- with what a def gives back as data -/
theorem de_call {x : Str} {p pos : Pos} {e : Expr} {es : List Expr} {g : Env → R (List AV)} {F : Env → R PyData} {f : Addr} {fd : FuncData} {ps : List Str} {k n : Nat} (hF : FnOk X.prog X.w X.K X.mg X.base (L2.CX X.prog X.w) k f fd ps (spF Z.K Z.ct (fun G _ _ v d => Dr Z.K G v d) n F)) (hr : Room k X.A) (hg : Gl X x) (hm : X.mg x = some (.ref f)) (hk : PySem.W.keepIn X.K (.ref f) = true) (hb : Binds X.K fd ps [])
    (tk : Takes X W) (hl : X.N.length ≤ lim) (ha : DAV X Z W (e :: es) g) (hn2 : n ≤ 1000 := by decide) (hdb : (x == ("__debug__" : Str)) = false := by decide) (he : starEach (e :: es) X.env = (false, eval e X.env) :: starEach es X.env := by rfl) (hpl : (backTo pos (starEach es X.env)).any (·.1) = false := by rfl) :
    DE X Z W (.Call (.Name x p) (e :: es) [] pos) (eCallF n F g) := by
  have q := pe_callS (p := p) (sp := spF Z.K Z.ct (fun G _ _ v d => Dr Z.K G v d) n F) (E := WE W) hF hr hg hm hk hb (fun σ => passAt tk σ) ha hdb he hpl
  refine ⟨fun pins s σ H Q I h => q.run pins s σ H Q I ?_⟩
  obtain ⟨ρ, G, O, R, P⟩ := h
  refine t_bind R P fun avs ρ1 vs G1 O1 H1 e1 R1 S1 D1 P1 => ?_
  by_cases c : avs.length = n
  · rw [if_pos c] at P1
    exact call_post (X := X) c hn2 (fun _ h => h) hl I.len R1 D1 P1
  · rw [if_neg c] at P1
    exact P1.elim
end
end DL

/-! D9: methods, instances, raise. -/
namespace DL
open PySem PySem.Spec PyProof.Rows L2
section
variable {X : Cx} {Z : Pm} {W : WX}
theorem newL_give {G : Hp} {O O' : Own} {H : Hp} {v : V} {d : List PyData} (h : ∀ a, O a = some lim → O' a = some lim) (r : NewL Z G O H v d) : NewL Z G O' H v d := by
  obtain ⟨a, vs, e, ho, hh, q⟩ := r
  exact ⟨a, vs, e, h a ho, hh, q⟩
/-- a def that gives a new list -/
theorem df_call {x : Str} {p pos : Pos} {e : Expr} {es : List Expr} {g : Env → R (List AV)} {F : Env → R (List PyData)} {f : Addr} {fd : FuncData} {ps : List Str} {k n : Nat} (hF : FnOk X.prog X.w X.K X.mg X.base (L2.CX X.prog X.w) k f fd ps (spF Z.K Z.ct (NewL Z) n F)) (hr : Room k X.A) (hg : Gl X x) (hm : X.mg x = some (.ref f)) (hk : PySem.W.keepIn X.K (.ref f) = true) (hb : Binds X.K fd ps [])
    (tk : Takes X W) (hl : X.N.length ≤ lim) (ha : DAV X Z W (e :: es) g) (hn2 : n ≤ 1000 := by decide) (hdb : (x == ("__debug__" : Str)) = false := by decide) (he : starEach (e :: es) X.env = (false, eval e X.env) :: starEach es X.env := by rfl) (hpl : (backTo pos (starEach es X.env)).any (·.1) = false := by rfl) :
    DF X Z W (.Call (.Name x p) (e :: es) [] pos) (eCallF n F g) := by
  have q := pe_callS (p := p) (sp := spF Z.K Z.ct (NewL Z) n F) (E := WE W) hF hr hg hm hk hb (fun σ => passAt tk σ) ha hdb he hpl
  refine ⟨fun pins s σ H Q I h => q.run pins s σ H Q I ?_⟩
  obtain ⟨ρ, G, O, R, P⟩ := h
  refine t_bind R P fun avs ρ1 vs G1 O1 H1 e1 R1 S1 D1 P1 => ?_
  by_cases c : avs.length = n
  · rw [if_pos c] at P1
    exact call_post (X := X) c hn2 newL_give hl I.len R1 D1 P1
  · rw [if_neg c] at P1
    exact P1.elim
/-! ### fields -/
theorem drF_look {K : PySem.W.Frag} {G : Hp} {f : Str} : ∀ {fvs : List (Str × V)} {fs : List (Str × PyData)}, DrF K G fvs fs → (∀ d, fs.lookup f = some d → ∃ v, fvs.lookup f = some v ∧ Dr K G v d) ∧ (fs.lookup f = none → fvs.lookup f = none)
  | _, _, .nil => ⟨fun d h => (by cases h), fun _ => rfl⟩
  | (a, v) :: r, (b, d) :: rs, .cons h t => by
    obtain ⟨e, q⟩ := h
    have e : a = b := e
    subst e
    obtain ⟨i1, i2⟩ := drF_look (f := f) t
    by_cases c : f = a
    · subst c
      rw [List.lookup_cons_self, List.lookup_cons_self]
      exact ⟨fun x h => (by cases h; exact ⟨v, rfl, q⟩), fun h => (by cases h)⟩
    · have nb : (f == a) = false := beq_eq_false_iff_ne.mpr c
      simp only [List.lookup_cons, nb]
      exact ⟨i1, i2⟩
def putFD (f : Str) (v : PyData) : List (Str × PyData) → List (Str × PyData)
  | [] => [(f, v)]
  | (g, x) :: r => if g = f then (g, v) :: r else (g, x) :: putFD f v r
theorem drF_put {K : PySem.W.Frag} {G : Hp} {f : Str} {v : V} {d : PyData} (q : Dr K G v d) : ∀ {fvs : List (Str × V)} {fs : List (Str × PyData)}, DrF K G fvs fs → DrF K G (putF f v fvs) (putFD f d fs)
  | _, _, .nil => .cons ⟨rfl, q⟩ .nil
  | (a, w) :: r, (b, e) :: rs, .cons h t => by
    obtain ⟨e1, q1⟩ := h
    have e1 : a = b := e1
    subst e1
    unfold putF putFD
    by_cases c : a = f
    · rw [if_pos c, if_pos c]
      exact .cons ⟨rfl, q⟩ t
    · rw [if_neg c, if_neg c]
      exact .cons ⟨rfl, q1⟩ (drF_put q t)
theorem drF_len {K : PySem.W.Frag} {G : Hp} {fvs : List (Str × V)} {fs : List (Str × PyData)} (h : DrF K G fvs fs) : fvs.length = fs.length := Paired.length h
def eFld (c : Nat) (i : Nat) (f : Str) : Env → R PyData := fun ρ => match ρ[i]? with
  | some (.oi _ c' fs) => if c' = c then match fs.lookup f with
      | some d => .ok d ρ
      | none => .bad
    else .bad
  | _ => .bad
theorem de_fld {x : Str} {p pos : Pos} {i c : Nat} {f : Str} (hK : X.K = Z.K) (ha : PE X (.Name x p) (tVar i)) (cl : Cls X.K (Z.ct c)) (na : NoAttr X.K (Z.ct c) f) (hb : attributeBase (.Name x p) f X.env (eval (.Name x p) X.env) = eval (.Name x p) X.env := by rfl) : DE X Z W (.Attribute (.Name x p) f pos) (eFld c i f) := by
  refine PE_imp (pe_fld ha hb) fun σ H Q ⟨ρ, G, O, R, P⟩ => ?_
  unfold eFld at P
  split at P
  · rename_i b c' fs ec
    split at P
    · rename_i hc
      subst hc
      split at P
      · rename_i d ed
        obtain ⟨a, dx, fvs, q1, q2, q3, q4, q5⟩ := R.cell i _ ec
        obtain ⟨v, ev, rv⟩ := (drF_look (f := f) q4).1 d ed
        exact ⟨.ref a, q1, a, _, dx, fvs, v, rfl, q3, cl, na, ev, P v G O H R Step.refl rv⟩
      · exact P.elim
    · exact P.elim
  · exact P.elim
theorem Rel.insMut {ρ : Env} {σ : L2.St} {G : Hp} {O : Own} {H : Hp} (R : Rel Z ρ σ G O H) {i c : Nat} {b : Bool} {fs : List (Str × PyData)} (h : ρ[i]? = some (.oi b c fs)) {a : Addr} (ha : σ[i]? = some (some (.ref a))) {dx : Addr} {fvs' : List (Str × V)} {fs' : List (Str × PyData)} (r : DrF Z.K G fvs' fs') :
    Rel Z (ρ.set i (.oi b c fs')) σ G O (upd H a (.ins (Z.ct c) dx fvs')) ∧ Step G O H G O (upd H a (.ins (Z.ct c) dx fvs')) := by
  obtain ⟨a', dx', fvs, q1, q2, q3, q4, q5⟩ := R.cell i _ h
  rw [ha] at q1
  cases q1
  have hi : i < ρ.length := (List.getElem?_eq_some_iff.mp h).1
  have na : O a ≠ none := by rw [q2]; exact fun z => nomatch z
  have ga : G a = none := R.go a na
  refine ⟨⟨by rw [List.length_set]; exact R.len, fun x o e => ?_, R.go, fun x hx => ?_, fun j c' e => ?_⟩, Same.refl _, fun x hx => .inl hx, fun x hx => .inl hx, fun x o e n => ?_⟩
  · have : x ≠ a := fun z => by rw [z, ga] at e; cases e
    rw [upd_ne this]
    exact R.gh _ _ e
  · by_cases z : x = a
    · rw [z, upd_same]
      exact fun z => nomatch z
    · rw [upd_ne z]
      exact R.oh x hx
  · by_cases z : i = j
    · subst z
      rw [List.getElem?_set_self hi] at e
      cases e
      exact ⟨a, dx, fvs', ha, q2, upd_same, r, q5⟩
    · rw [List.getElem?_set_ne z] at e
      refine (R.cell j c' e).keep (Same.refl _) (fun _ q => q) fun x o hx ho => ?_
      have : x ≠ a := fun y => by
        rw [y, q2] at hx
        exact z (Option.some.inj hx)
      rw [upd_ne this]
      exact ho
  · have : x ≠ a := fun z => by rw [z] at n; exact na n
    rw [upd_ne this]
    exact e
variable {α : Type} {rel : Hp → Own → Hp → V → α → Prop}
def sFldD (c : Nat) (i : Nat) (f : Str) (fe : Env → R PyData) : Env → FlR α := fun ρ => toF (fe ρ) fun d ρ1 => match ρ1[i]? with
  | some (.oi b c' fs) => if c' = c ∧ fs.length < 1000 then .nx (ρ1.set i (.oi b c' (putFD f d fs))) else .bad
  | _ => .bad
theorem s_fld {x : Str} {p pos' pos : Pos} {e : Expr} {i c : Nat} {f : Str} {fe : Env → R PyData} (hK : X.K = Z.K) (ha : PE X (.Name x p) (tVar i)) (cl : Cls X.K (Z.ct c)) (na : NoAttr X.K (Z.ct c) f) (he : DE X Z W e fe) (hs : swapsWith e (some (.Attribute (.Name x p) f pos')) pos.line X.env = pure false := by rfl) :
    DS X Z W rel (.Assign [.Attribute (.Name x p) f pos'] e pos) (sFldD c i f fe) := by
  refine PS_imp (ps_fld ha he hs) fun D σ H ⟨ρ, G, O, R, P⟩ => ?_
  refine s_bind R P fun d ρ1 v G1 O1 H1 e1 R1 S1 D1 P1 => ?_
  split at P1
  · rename_i b c' fs ec
    split at P1
    · rename_i hc
      obtain ⟨hc, hl⟩ := hc
      subst hc
      obtain ⟨a, dx, fvs, q1, q2, q3, q4, q5⟩ := R1.cell i _ ec
      obtain ⟨R2, S2⟩ := R1.insMut ec q1 (dx := dx) (drF_put (f := f) D1 q4)
      exact ⟨.ref a, q1, a, _, dx, fvs, rfl, q3, cl, na, by rw [drF_len q4]; exact hl, P1 σ _ _ _ R2 S2⟩
    · exact P1.elim
  · exact P1.elim
def sFldAugD (g : Int → Int → Int) (c : Nat) (i : Nat) (f : Str) (fe : Env → R PyData) : Env → FlR α := fun ρ => match ρ[i]? with
  | some (.oi _ c' fs) => match fs.lookup f with
    | some (.int z) => if c' = c then toF (fe ρ) fun d ρ1 => match ρ1[i]?, d with
        | some (.oi b c2 fs2), .int y => if c2 = c ∧ fs2.length < 1000 then .nx (ρ1.set i (.oi b c2 (putFD f (.int (g z y)) fs2))) else .bad
        | _, _ => .bad
      else .bad
    | _ => .bad
  | _ => .bad
theorem s_fldAug {x : Str} {p tpos pos : Pos} {op : Operator} {e : Expr} {i c : Nat} {f : Str} {fe : Env → R PyData} {g : Int → Int → Int} (ha : PE X (.Name x p) (tVar i)) (cl : Cls X.K (Z.ct c)) (na : NoAttr X.K (Z.ct c) f) (hop : InOp X op (fun x y H Q => ∃ i j, x = .int i ∧ y = .int j ∧ Q (.int (g i j)) H)) (he : DE X Z W e fe) :
    DS X Z W rel (.AugAssign (.Attribute (.Name x p) f tpos) op e pos) (sFldAugD g c i f fe) := by
  refine PS_imp (ps_fldaug ha he hop) fun D σ H ⟨ρ, G, O, R, P⟩ => ?_
  unfold sFldAugD at P
  split at P
  · rename_i b c' fs ec
    split at P
    · rename_i z ez
      split at P
      · rename_i hc
        subst hc
        obtain ⟨a, dx, fvs, q1, q2, q3, q4, q5⟩ := R.cell i _ ec
        obtain ⟨v, ev, rv⟩ := (drF_look (f := f) q4).1 _ ez
        cases rv
        refine ⟨.ref a, q1, a, _, dx, fvs, _, rfl, q3, cl, na, ev, ?_⟩
        refine s_bind R P fun d ρ1 v G1 O1 H1 e1 R1 S1 D1 P1 => ?_
        cases e4 : ρ1[i]? with
        | none => rw [e4] at P1; exact P1.elim
        | some c4 =>
          cases c4 with
          | oi b2 c2 fs2 =>
            rw [e4] at P1
            cases D1 with
            | int y =>
              have P2 : PostS Z W rel G1 O1 H1 D (if c2 = c' ∧ fs2.length < 1000 then .nx (ρ1.set i (.oi b2 c2 (putFD f (.int (g z y)) fs2))) else .bad) := P1
              clear P1
              split at P2
              · rename_i hc
                obtain ⟨hc, hl⟩ := hc
                subst hc
                obtain ⟨a2, dx2, fvs2, w1, w2, w3, w4, w5⟩ := R1.cell i _ e4
                rw [q1] at w1
                cases w1
                obtain ⟨R2, S2⟩ := R1.insMut e4 q1 (dx := dx2) (drF_put (f := f) (.int (g z y)) w4)
                exact ⟨z, y, rfl, rfl, dx2, fvs2, w3, by rw [drF_len w4]; exact hl, P2 σ _ _ _ R2 S2⟩
              · exact P2.elim
            | _ => exact P1.elim
          | _ => rw [e4] at P1; exact P1.elim
      · exact P.elim
    · exact P.elim
  · exact P.elim
/-! ### methods -/
def eMeth {α : Type} (c : Nat) (m : Str) (n : Nat) (F : Env → R α) (i : Nat) (g : Env → R (List AV)) : Env → R α := fun ρ => match ρ[i]? with
  | some (.oi _ c' fs) => if c' = c ∧ fs.lookup m = none then (g ρ).bind fun avs ρ1 => if (AV.own i :: avs).length = n then runF F (AV.own i :: avs) ρ1 else .bad else .bad
  | _ => .bad
section
variable {CX : CXT} {k : Nat} {f C : Addr} {fd : FuncData} {ps : List Str} {sp : Sp} {E : L2.St → XK} {x m : Str} {p pos apos : Pos} {e o : Expr} {es : List Expr} {ta : TE} {t : TA}
def tMethS (C : Addr) (m : Str) (sp : Sp) (E : L2.St → XK) (ta : TE) (t : TA) : TE := fun σ H Q => ta σ H fun x H1 => ∃ a dx fs, x = .ref a ∧ H1 a = some (.ins C dx fs) ∧ fs.lookup m = none ∧
  t σ H1 fun vs H2 => sp (x :: vs) H2 Q (E σ)
theorem pe_methW {pl : Sem Bool} (he : PE X o ta) (c : Cls X.K C) (hm : Meth X.K C m f) (F : FnOk X.prog X.w X.K X.mg X.base CX k f fd ps sp) (hr : Room k X.A) (hb : Binds X.K fd ps []) (hx : ∀ σ, PassesAt CX X σ (E σ)) (ha : PA X (e :: es) t)
    (hst : starEach (e :: es) X.env = (false, eval e X.env) :: starEach es X.env := by rfl) (hpl : (backTo pos (starEach es X.env)).any (·.1) = false := by rfl)
    (ht : eval (.Call (.Attribute o m apos) (e :: es) [] pos) X.env = (do
      let ov ← eval o X.env
      standAt apos.atName
      let (f, first) ← holding [ov] (getMethod ov m pl)
      callWith pos f first (backTo pos (starEach (e :: es) X.env)) (backToKw pos (keywordEach [] X.env))) := by rfl) :
    PE X (.Call (.Attribute o m apos) (e :: es) [] pos) (tMethS C m sp E ta t) := by
  refine ⟨fun pins s σ H Q I h => ?_⟩
  refine PySem.W.methodCall_KW (pl := pl) (thn (he.run pins s σ H _ I h) fun u s1 ⟨x, H1, I1, rx, a, dx, fs, ex, ea, l, q⟩ => ?_) ht
  subst ex
  obtain rfl : u = Value.ref a := rx
  refine getmeth_ok I1 ea c hm l ?_
  refine PySem.W.callWith_K (first := [.ref a]) (h₀ := X.base) I.ok.mod.kin hm.kp (thn (ha.run pos pins s1 σ H1 _ I1 q) fun us s2 ⟨vs, H2, I2, r, q2⟩ => ⟨I2.kIn, ?_⟩) hst hpl
  exact run_fnS (us := .ref a :: us) (vs := .ref a :: vs) F hr hb (hx σ) I2 (.cons rfl r) q2
theorem pe_methW0 {pl : Sem Bool} (he : PE X o ta) (c : Cls X.K C) (hm : Meth X.K C m f) (F : FnOk X.prog X.w X.K X.mg X.base CX k f fd ps sp) (hr : Room k X.A) (hb : Binds X.K fd ps []) (hx : ∀ σ, PassesAt CX X σ (E σ))
    (ht : eval (.Call (.Attribute o m apos) [] [] pos) X.env = (do
      let ov ← eval o X.env
      standAt apos.atName
      let (f, first) ← holding [ov] (getMethod ov m pl)
      callWith pos f first (backTo pos (starEach [] X.env)) (backToKw pos (keywordEach [] X.env))) := by rfl) :
    PE X (.Call (.Attribute o m apos) [] [] pos) (tMethS C m sp E ta tNil) := by
  refine ⟨fun pins s σ H Q I h => ?_⟩
  refine PySem.W.methodCall_KW (pl := pl) (thn (he.run pins s σ H _ I h) fun u s1 ⟨x, H1, I1, rx, a, dx, fs, ex, ea, l, q⟩ => ?_) ht
  subst ex
  obtain rfl : u = Value.ref a := rx
  refine getmeth_ok I1 ea c hm l ?_
  exact PySem.W.callWith_K0 (first := [.ref a]) I1.kIn hm.kp (run_fnS (us := [.ref a]) (vs := [.ref a]) F hr hb (hx σ) I1 (.cons rfl .nil) q)
/-- C(..) with what is raised wished for at the caller's slots -/
def tMakeS (C : Addr) (sp : Sp) (E : L2.St → XK) (t : TA) : TE := fun σ H Q => t σ H fun vs H1 => ∀ x dx, H1 x = none → H1 dx = none → dx ≠ x →
  sp (.ref x :: vs) (upd (upd H1 dx (.own x)) x (.ins C dx [])) (fun v H2 => v = .non ∧ Q (.ref x) H2) (E σ)
theorem run_makeS {pins : List (Addr × Obj)} {σ : L2.St} {H : Hp} {s : Shared} {Q : VK} {us : List Value} {vs : List V} (M : Mk X.K C f) (F : FnOk X.prog X.w X.K X.mg X.base CX k f fd ps sp) (hr : Room (k + 1) X.A) (hb : Binds X.K fd ps [])
    (hx : PassesAt CX X σ (E σ)) (I : Inv X pins σ H s) (r : Vals vs us)
    (h : ∀ x dx, H x = none → H dx = none → dx ≠ x → sp (.ref x :: vs) (upd (upd H dx (.own x)) x (.ins C dx [])) (fun v H2 => v = .non ∧ Q (.ref x) H2) (E σ)) :
    wpAny (model X.prog X.w) X.A (call (.ref C) us) (EP X pins σ Q) X.xe s := by
  have hq := h (s.heap.objs.size + 1) s.heap.objs.size (I.hok.fresh (Nat.le_succ _)) (I.hok.fresh (Nat.le_refl _)) (Nat.ne_of_lt (Nat.lt_succ_self _))
  have I2 := Inv.made (C := C) I
  have r2 : Vals (V.ref (s.heap.objs.size + 1) :: vs) (Value.ref (s.heap.objs.size + 1) :: us) := .cons rfl r
  have hl : (Value.ref (s.heap.objs.size + 1) :: us).length = ps.length := by
    have e := r2.length
    rw [F.len _ _ _ _ hq] at e
    exact e.symm
  have b := hb _ (Value.ref (s.heap.objs.size + 1) :: us) I2.kIn (by rw [List.append_nil]; exact hl)
  rw [List.append_nil] at b
  refine wpAny_call (make_map (f := f) I.kIn M.makes M.init (beq_iff_eq.mp M.fn) (codeAny_mono (F.run _ X.stack _ _ ⟨Value.ref (s.heap.objs.size + 1) :: us, []⟩ (Value.ref (s.heap.objs.size + 1) :: us) _ _ (E σ) (hr.make C us [])
    (I2.env0.make C us []) b r2 hq) fun r s' hq' => ?_))
  cases r with
  | error e => exact hx pins _ _ e s' I2 hq'
  | ok fl =>
    cases fl with
    | ret u =>
      obtain ⟨v, H', I3, rv, ev, q3⟩ := I2.after hq'
      subst ev
      exact ⟨rv, ⟨V.ref (s.heap.objs.size + 1), H', I3, rfl, q3⟩⟩
    | next => exact False.elim hq'
    | brk => exact False.elim hq'
    | cont => exact False.elim hq'
theorem pe_makeS (M : Mk X.K C f) (F : FnOk X.prog X.w X.K X.mg X.base CX k f fd ps sp) (hr : Room (k + 1) X.A) (hg : Gl X x) (hm : X.mg x = some (.ref C)) (hb : Binds X.K fd ps []) (hx : ∀ σ, PassesAt CX X σ (E σ))
    (ha : PA X (e :: es) t) (hdb : (x == ("__debug__" : Str)) = false := by decide) (he : starEach (e :: es) X.env = (false, eval e X.env) :: starEach es X.env := by rfl) (hpl : (backTo pos (starEach es X.env)).any (·.1) = false := by rfl) :
    PE X (.Call (.Name x p) (e :: es) [] pos) (tMakeS C sp E t) := by
  refine ⟨fun pins s σ H Q I h => ?_⟩
  refine wpAny_Call_Name_kw (ld_glob I hg hm ?_ hdb)
  refine PySem.W.callWith_K (h₀ := X.base) I.ok.mod.kin M.kp (thn (ha.run pos pins s σ H _ I h) fun us s1 ⟨vs, H1, I1, r, q⟩ => ⟨I1.kIn, ?_⟩) he hpl
  exact run_makeS M F hr hb (hx σ) I1 r q
end
theorem meth_read {g : Env → R (List AV)} {F : Env → R α} {m : Str} {i c n : Nat} {t : TA} {σ : L2.St} {H : Hp} {Q : VK} (hn2 : n ≤ 1000) (hrel : ∀ {G : Hp} {O O' : Own} {H : Hp} {v : V} {d : α}, (∀ a, O a = some lim → O' a = some lim) → rel G O H v d → rel G O' H v d)
    (hl : X.N.length ≤ lim) (hσ : σ.length = X.N.length) (ht : ∀ Q', T_ Z W (argsRel Z σ) g σ H Q' → t σ H Q') (h : T_ Z W rel (eMeth c m n F i g) σ H Q) : tMethS (Z.ct c) m (spF Z.K Z.ct rel n F) (WE W) (tVar i) t σ H Q := by
  obtain ⟨ρ, G, O, R, P⟩ := h
  unfold eMeth at P
  split at P
  · rename_i b c' fs ec
    split at P
    · rename_i hc
      obtain ⟨hc, hm⟩ := hc
      subst hc
      obtain ⟨a, dx, fvs, q1, q2, q3, q4, q5⟩ := R.cell i _ ec
      refine ⟨.ref a, q1, a, dx, fvs, rfl, q3, (drF_look q4).2 hm, ht _ ?_⟩
      refine t_bind R P fun avs ρ1 vs G1 O1 H1 e1 R1 S1 D1 P1 => ?_
      by_cases c : (AV.own i :: avs).length = n
      · rw [if_pos c] at P1
        exact call_post (X := X) c hn2 hrel hl hσ R1 (.cons q1 D1) P1
      · rw [if_neg c] at P1
        exact P1.elim
    · exact P.elim
  · exact P.elim
theorem de_meth {x : Str} {p apos pos : Pos} {m : Str} {e : Expr} {es : List Expr} {g : Env → R (List AV)} {F : Env → R PyData} {f : Addr} {fd : FuncData} {ps : List Str} {k n i c : Nat} {pl : Sem Bool} (ha : PE X (.Name x p) (tVar i)) (cl : Cls X.K (Z.ct c)) (hm : Meth X.K (Z.ct c) m f) (hF : FnOk X.prog X.w X.K X.mg X.base (L2.CX X.prog X.w) k f fd ps (spF Z.K Z.ct (fun G _ _ v d => Dr Z.K G v d) n F)) (hr : Room k X.A) (hb : Binds X.K fd ps [])
    (tk : Takes X W) (hl : X.N.length ≤ lim) (hargs : DAV X Z W (e :: es) g) (hn2 : n ≤ 1000 := by decide)
    (hst : starEach (e :: es) X.env = (false, eval e X.env) :: starEach es X.env := by rfl) (hpl : (backTo pos (starEach es X.env)).any (·.1) = false := by rfl)
    (ht : eval (.Call (.Attribute (.Name x p) m apos) (e :: es) [] pos) X.env = (do
      let ov ← eval (.Name x p) X.env
      standAt apos.atName
      let (f, first) ← holding [ov] (getMethod ov m pl)
      callWith pos f first (backTo pos (starEach (e :: es) X.env)) (backToKw pos (keywordEach [] X.env))) := by rfl) :
    DE X Z W (.Call (.Attribute (.Name x p) m apos) (e :: es) [] pos) (eMeth c m n F i g) :=
  ⟨fun pins s σ H Q I h => (pe_methW (sp := spF Z.K Z.ct (fun G _ _ v d => Dr Z.K G v d) n F) (E := WE W) (pl := pl) ha cl hm hF hr hb (fun σ => passAt tk σ) hargs hst hpl ht).run pins s σ H Q I (meth_read (X := X) hn2 (fun _ h => h) hl I.len (fun _ q => q) h)⟩
theorem de_meth0 {x : Str} {p apos pos : Pos} {m : Str} {F : Env → R PyData} {f : Addr} {fd : FuncData} {ps : List Str} {k n i c : Nat} {pl : Sem Bool} (ha : PE X (.Name x p) (tVar i)) (cl : Cls X.K (Z.ct c)) (hm : Meth X.K (Z.ct c) m f) (hF : FnOk X.prog X.w X.K X.mg X.base (L2.CX X.prog X.w) k f fd ps (spF Z.K Z.ct (fun G _ _ v d => Dr Z.K G v d) n F)) (hr : Room k X.A) (hb : Binds X.K fd ps [])
    (tk : Takes X W) (hl : X.N.length ≤ lim) (hn2 : n ≤ 1000 := by decide)
    (ht : eval (.Call (.Attribute (.Name x p) m apos) [] [] pos) X.env = (do
      let ov ← eval (.Name x p) X.env
      standAt apos.atName
      let (f, first) ← holding [ov] (getMethod ov m pl)
      callWith pos f first (backTo pos (starEach [] X.env)) (backToKw pos (keywordEach [] X.env))) := by rfl) :
    DE X Z W (.Call (.Attribute (.Name x p) m apos) [] [] pos) (eMeth c m n F i avNil) :=
  ⟨fun pins s σ H Q I h => (pe_methW0 (sp := spF Z.K Z.ct (fun G _ _ v d => Dr Z.K G v d) n F) (E := WE W) (pl := pl) ha cl hm hF hr hb (fun σ => passAt tk σ) ht).run pins s σ H Q I (meth_read (X := X) hn2 (fun _ h => h) hl I.len (fun Q' q => by
    obtain ⟨ρ, G, O, R, P⟩ := q
    exact P [] G O H R Step.refl .nil) h)⟩
/-! ### instances made -/
def eMake (c n : Nat) (F : Env → R PyData) (g : Env → R (List AV)) : Env → R (Nat × List (Str × PyData)) := fun ρ => (g ρ).bind fun avs ρ1 => if avs.length + 1 = n ∧ keysOk (AV.ins c [] :: avs) = true then match cellsAV ρ1 avs with
    | some cs => match F (.oi true c [] :: cs) with
      | .ok .none ρ' => match ρ'[0]? with
        | some (Cell.oi true c' fs) => if c' = c then .ok (c, fs) (backAV ρ1 ρ' 0 (AV.ins c [] :: avs)) else .bad
        | _ => .bad
      | .er x ρ' => .er x (backAV ρ1 ρ' 0 (AV.ins c [] :: avs))
      | _ => .bad
    | none => .bad
  else .bad
abbrev DNew (X : Cx) (Z : Pm) (W : WX) (e : Expr) (f : Env → R (Nat × List (Str × PyData))) : Prop := PE X e (T_ Z W (NewI Z) f)
theorem argRel_up {σ : L2.St} {G : Hp} {O O' : Own} {H H' : Hp} (ho : ∀ a k, O a = some k → O' a = some k) (hh : ∀ a o, H a = some o → H' a = some o) {v : V} {a : AV} (h : argRel Z σ G O H v a) : argRel Z σ G O' H' v a := by
  cases a with
  | val d => exact h
  | own i => exact h
  | new ds =>
    obtain ⟨b, vs, e, q1, q2, q3⟩ := h
    exact ⟨b, vs, e, ho _ _ q1, hh _ _ q2, q3⟩
  | ins c fs =>
    obtain ⟨b, dx, vs, e, q1, q2, q3⟩ := h
    exact ⟨b, dx, vs, e, ho _ _ q1, hh _ _ q2, q3⟩
theorem dn_make {x : Str} {p pos : Pos} {e : Expr} {es : List Expr} {g : Env → R (List AV)} {F : Env → R PyData} {f : Addr} {fd : FuncData} {ps : List Str} {k n c : Nat} (M : Mk X.K (Z.ct c) f) (hF : FnOk X.prog X.w X.K X.mg X.base (L2.CX X.prog X.w) k f fd ps (spF Z.K Z.ct (fun G _ _ v d => Dr Z.K G v d) n F)) (hr : Room (k + 1) X.A) (hg : Gl X x) (hm : X.mg x = some (.ref (Z.ct c))) (hb : Binds X.K fd ps [])
    (tk : Takes X W) (hl : X.N.length ≤ lim) (ha : DAV X Z W (e :: es) g) (hn2 : n ≤ 1000 := by decide) (hdb : (x == ("__debug__" : Str)) = false := by decide) (he : starEach (e :: es) X.env = (false, eval e X.env) :: starEach es X.env := by rfl) (hpl : (backTo pos (starEach es X.env)).any (·.1) = false := by rfl) :
    DNew X Z W (.Call (.Name x p) (e :: es) [] pos) (eMake c n F g) := by
  have q := pe_makeS (p := p) (sp := spF Z.K Z.ct (fun G _ _ v d => Dr Z.K G v d) n F) (E := WE W) M hF hr hg hm hb (fun σ => passAt tk σ) ha hdb he hpl
  refine ⟨fun pins s σ H Q I h => q.run pins s σ H Q I ?_⟩
  obtain ⟨ρ, G, O, R, P⟩ := h
  refine t_bind R P fun avs ρ1 vs G1 O1 H1 e1 R1 S1 D1 P1 => ?_
  intro a dx ha hdx hne
  split at P1
  case isFalse => exact P1.elim
  rename_i hc
  obtain ⟨hn, hk⟩ := hc
  have sd : Same H1 (upd H1 dx (.own a)) := same_new hdx
  have hna : (upd H1 dx (.own a)) a = none := by
    rw [upd_ne (Ne.symm hne)]
    exact ha
  have s2 : Same H1 (upd (upd H1 dx (.own a)) a (.ins (Z.ct c) dx [])) := sd.trans (same_new hna)
  have oa : O1 a = none := by
    cases z : O1 a with
    | none => rfl
    | some y => exact absurd ha (R1.oh a (by rw [z]; exact fun z => nomatch z))
  have ga : G1 a = none := by
    cases z : G1 a with
    | none => rfl
    | some y =>
      rw [R1.gh _ _ z] at ha
      cases ha
  let O2 : Own := fun b => if b = a then some lim else O1 b
  have o2a : O2 a = some lim := if_pos rfl
  have o2 : ∀ b k, O1 b = some k → O2 b = some k := fun b k e => by
    have : b ≠ a := fun z => by rw [z, oa] at e; cases e
    show (if b = a then some lim else O1 b) = _
    rw [if_neg this]
    exact e
  have back : ∀ b, O2 b ≠ none → b = a ∨ O1 b ≠ none := fun b hb => by
    by_cases z : b = a
    · exact .inl z
    · refine .inr ?_
      have : O2 b = O1 b := if_neg z
      rwa [this] at hb
  have R2 : Rel Z ρ1 σ G1 O2 (upd (upd H1 dx (.own a)) a (.ins (Z.ct c) dx [])) := by
    refine ⟨R1.len, R1.gh.trans s2, fun b hb => ?_, fun b hb => ?_, fun j c' e => (R1.cell j c' e).keep (Same.refl _) (fun b q => o2 b _ q) fun b o _ q => s2 _ _ q⟩
    · rcases back b hb with z | z
      · rw [z]; exact ga
      · exact R1.go b z
    · rcases back b hb with z | z
      · rw [z, upd_same]; exact fun z => nomatch z
      · cases q : H1 b with
        | none => exact absurd q (R1.oh b z)
        | some o =>
          rw [s2 _ _ q]
          exact fun z => nomatch z
  have St2 : Step G1 O1 H1 G1 O2 (upd (upd H1 dx (.own a)) a (.ins (Z.ct c) dx [])) := by
    refine ⟨Same.refl _, fun b hb => .inl hb, fun b hb => ?_, fun b o e _ => s2 _ _ e⟩
    rcases back b hb with z | z
    · exact .inr (by rw [z]; exact ha)
    · exact .inl z
  have A2 : argsRel Z σ G1 O2 (upd (upd H1 dx (.own a)) a (.ins (Z.ct c) dx [])) (.ref a :: vs) (AV.ins c [] :: avs) :=
    .cons ⟨a, dx, [], rfl, o2a, upd_same, .nil⟩ (Paired.mapP D1 fun _ _ h => argRel_up o2 s2 h)
  cases hcs : cellsAV ρ1 avs with
  | none =>
    rw [hcs] at P1
    exact P1.elim
  | some cs =>
    rw [hcs] at P1
    dsimp only at P1
    have hcs2 : cellsAV ρ1 (AV.ins c [] :: avs) = some (.oi true c [] :: cs) := by
      unfold cellsAV cellAV
      rw [hcs]
    refine ⟨by show vs.length + 1 = n; rw [Paired.length D1]; exact hn, _, _, G1, _, lend R2 A2 hk hcs2, ?_⟩
    have hlen : ρ1.length ≤ lim := by rw [R1.len, I.len]; exact hl
    cases eF : F (.oi true c [] :: cs) with
    | bad =>
      rw [eF] at P1
      exact P1.elim
    | er y ρ' =>
      rw [eF] at P1
      intro c' od τ G' O' H' R' S' D'
      obtain ⟨R3, S3, g3⟩ := giveBack R2 A2 hk hcs2 hlen (by show avs.length + 1 ≤ 1000; omega) rfl R' S'
      exact P1 c' od G' _ H' R3 (St2.trans S3) D'
    | ok d ρ' =>
      rw [eF] at P1
      intro v τ G' O' H' R' S' D'
      obtain ⟨R3, S3, g3⟩ := giveBack R2 A2 hk hcs2 hlen (by show avs.length + 1 ≤ 1000; omega) rfl R' S'
      cases D' with
      | non =>
        refine ⟨rfl, ?_⟩
        have P1 : Post Z W (NewI Z) σ G1 O1 H1 Q (match ρ'[0]? with
          | some (Cell.oi true c' fs) => if c' = c then .ok (c, fs) (backAV ρ1 ρ' 0 (AV.ins c [] :: avs)) else .bad
          | _ => .bad) := P1
        split at P1
        · rename_i c' fs e0
          split at P1
          · rename_i hc
            subst hc
            obtain ⟨b, dx', fvs, w1, w2, w3, w4, w5⟩ := R'.cell 0 _ e0
            have eb : a = b := w5 rfl
            subst eb
            refine P1 (.ref a) G' _ H' R3 (St2.trans S3) ⟨a, dx', fvs, rfl, ?_, w3, w4⟩
            unfold given
            by_cases z : O' a = some lim
            · rw [if_pos z]
            · rw [if_neg z, o2a]
              dsimp only
              unfold posOf
              rw [if_pos (show (AV.ins c' []).key = some lim from rfl)]
              dsimp only
              rw [if_pos w2]
          · exact P1.elim
        · exact P1.elim
      | _ => exact P1.elim
def sNew (i : Nat) (f : Env → R (Nat × List (Str × PyData))) : Env → FlR α := fun ρ => toF (f ρ) fun d ρ1 => .nx (ρ1.set i (.oi false d.1 d.2))
theorem s_new {i : Nat} {x : Str} {e : Expr} {f : Env → R (Nat × List (Str × PyData))} {pos pos' : Pos} (hl : X.N.length ≤ lim) (hN : X.N.Nodup) (hi : X.N[i]? = some x) (hx : Loc X.env.scope x) (h : DNew X Z W e f) (hs : swapsWith e (some (.Name x pos')) pos.line X.env = pure false := by rfl) (hf : X.fn x = true ∨ X.env.scope.names.lookup x = some .local := by first | exact .inl rfl | exact .inr rfl | assumption) :
    DS X Z W rel (.Assign [.Name x pos'] e pos) (sNew i f) := by
  refine ⟨fun pins s σ H D I q => (ps_set hN hi hx h hs hf).run pins s σ H D I ?_⟩
  have hn := (List.getElem?_eq_some_iff.mp hi).1
  have hσ := I.len
  obtain ⟨ρ, G, O, R, P⟩ := q
  refine s_bind R P fun d ρ1 v G1 O1 H1 e1 R1 S1 D1 P1 => ?_
  obtain ⟨a, dx, fvs, rfl, ho, hv, r⟩ := D1
  have hl1 : ρ1.length = X.N.length := by rw [R1.len, hσ]
  obtain ⟨R2, S2⟩ := R1.take (i := i) (c := .oi false d.1 d.2) ho (by omega) (by omega) ⟨a, dx, fvs, List.getElem?_set_self (by rw [hσ]; exact hn), if_pos rfl, hv, r, fun z => nomatch z⟩
  exact P1 _ _ _ _ R2 S2
/-! ### raise -/
def sRaise (c : Nat) : Env → FlR α := fun ρ => .er ⟨c, none⟩ ρ
theorem s_raise {x m : Str} {j : Nat} {p p2 p3 pos : Pos} {c : Nat} {bmB : List Value} {B newId initId : String} (hc : X.calm = true) (tk : Takes X W) (F : ExcBaseFacts B newId initId bmB) (q : PySem.W.excIn X.K (Z.ct c) bmB newId = true) (gC : X.mg x = some (.ref (Z.ct c))) (kC : PySem.W.keepIn X.K (.ref (Z.ct c)) = true) (r : Raises X (.ref (Z.ct c))) (hg : Gl X x)
    (hdb : (x == ("__debug__" : Str)) = false := by decide) : DS X Z W rel (.Raise (some (.Call (.Name x p) [.Constant (.str m) j p2] [] p3)) none pos) (sRaise c) := by
  refine PS_imp (ps_raise hc tk (pmk_own F q gC kC r hg hdb)) fun D σ H ⟨ρ, G, O, R, P⟩ => ?_
  exact P _ none σ G O H R Step.refl ⟨rfl, rfl⟩
end
end DL

/-! D10: sorted. -/
namespace DL
open PySem PySem.Spec PyProof.Rows L2
section
variable {prog : Program} {w : World} {A : Around} {E : Value → Shared → Prop} {s : Shared}
theorem collect_tuple {l : Addr} {vs : List Value} {Q : List Value → Shared → Prop} (hl : s.heap.IsTuple l vs.toArray)
    (h : Q vs { s with heap := (s.heap.push (seqObj "list" #[] 0)).update s.heap.objs.size (Obj.mapSeq (· ++ vs.toArray)) }) (hsz : vs.length ≤ sizeLine := by size_fits) :
    wpAny (model prog w) A (collect (.ref l)) Q E s := by
  obtain ⟨o, ho, hc, n, hd⟩ := id hl
  unfold collect
  refine wpAny_bind (wpAny_runValue (codeAny_builtin entry_proto_collect' ?_))
  show wpAny _ _ (do again (.builtin "list.__iadd__" ⟨[← newList [], .ref l], []⟩)) _ _ s
  refine wpAny_bind (wpAny_newList (wpAny_pure ⟨Code.quiet_builtin _ (by decide +kernel), codeAny_builtin entry_list_iadd' ?_⟩))
  show wpAny _ _ (Builtin.List.listExtendWith (.ref s.heap.objs.size) (.ref l) (.ref s.heap.objs.size)) _ _ { s with heap := s.heap.push (seqObj "list" #[] 0) }
  unfold Builtin.List.listExtendWith
  have ho' : (s.heap.push (seqObj "list" #[] 0)).get? l = some o := Heap.get?_push_of_some _ ho
  refine wpAny_bind (wpAny_typeOf (T := "tuple") ⟨o, ho', hc⟩ ?_)
  have ht : (Value.type "tuple" == Value.type "tuple") = true := by rfl
  rw [if_pos (by rw [ht]; simp)]
  refine wpAny_bind (listItems_at ho' hd ?_)
  refine wpAny_bind (listItems_at (xs := #[]) (n := 0) (Heap.get?_push_size _ rfl) rfl ?_)
  rw [if_neg (by simp)]
  refine wpAny_bind (listUpdate_at (xs := #[]) (n := 0) (Heap.get?_push_size _ rfl) rfl ?_ (Nat.zero_le _) (by show (#[] ++ vs.toArray).size ≤ sizeLine + 1; simp only [Array.size_append, List.size_toArray, List.length_nil]; omega))
  refine wpAny_pure ?_
  show wpAny (model prog w) A (do
      let o ← load s.heap.objs.size
      match o.data with
      | .seq xs _ => pure xs.toList
      | _ => unsupported "internal:collect") Q E { s with heap := (s.heap.push (seqObj "list" #[] 0)).update s.heap.objs.size (Obj.mapSeq (· ++ vs.toArray)) }
  refine wpAny_bind (wpAny_load (get?_update_seq (Heap.get?_push_size _ rfl) _) ?_)
  show wpAny _ _ (pure ((#[] : Array Value) ++ vs.toArray).toList) Q E _
  rw [show ((#[] : Array Value) ++ vs.toArray).toList = vs by simp]
  exact wpAny_pure h
theorem sorted_core {β : Type} {v : Value} {Pu : List Value → Prop} {bs : List β} {enc : β → PyData} {R : Value → β → Prop} {Q : Value → Shared → Prop}
    (hcol : ∀ (Q' : List Value → Shared → Prop), (∀ us h' tk, Pu us → (∀ b o, s.heap.get? b = some o → h'.get? b = some o) → Q' us { s with heap := h', toks := tk }) → wpAny (model prog w) A.in1 (collect v) Q' E s)
    (e : ∀ us, Pu us → PySem.W.EachIs R us bs) (er : ∀ us, Pu us → PySem.W.EachIs (fun v b => ∃ as, Reads s.heap v (enc b) as) us bs) (hal : PySem.W.AllAlike (bs.map enc)) (hk : PySem.W.Sortable (bs.map enc)) (hL : bs.length ≤ sizeLine)
    (hu : ∀ b, b ∈ bs → A.units + 2 + (enc b).depth < cLine)
    (h : ∀ (out : List Value) (h0 h' : Heap) (tk c : Nat), (∀ b o, s.heap.get? b = some o → h0.get? b = some o) → (∀ b o, h0.get? b = some o → h'.get? b = some o) → h'.get? h0.objs.size = some (seqObj "list" (List.toArray out) c) → PySem.W.EachIs R out (bs.mergeSort (PySem.W.dataLe false enc)) → Q (.ref h0.objs.size) { s with heap := h', toks := tk }) :
    wpAny (model prog w) A (call (.builtin "sorted") [v]) Q E s := by
  refine Calls.call_function_entry kind_sorted plain_sorted entry_sorted (args_sorted1 _) ?_
  unfold Builtin.«sorted»
  refine wpAny_bind (m := checkCount "sorted" 1 1 _) (wpAny_pure ?_)
  refine wpAny_bind (hcol _ fun us h' tk hP hk' => ?_)
  have e := e us hP
  have er := er us hP
  have hlen : us.length = bs.length := e.length
  refine wpAny_bind (wpAny_newList ?_ (by rw [hlen]; exact hL))
  have ho : (h'.push { cls := .type "list", data := .seq us.toArray }).get? h'.objs.size = some (seqObj "list" us.toArray 0) := Heap.get?_push_size _ rfl
  have kp : ∀ b o, s.heap.get? b = some o → (h'.push { cls := .type "list", data := .seq us.toArray }).get? b = some o := fun b o q => Heap.get?_push_of_some _ (hk' b o q)
  have hg := PySem.W.list_sort_data (prog := prog) (w := w) (A := A.in1) (E := E) (s := { s with heap := h'.push { cls := .type "list", data := .seq us.toArray }, toks := tk }) (a := h'.objs.size) (n := 0) (Q := fun r s' => Q (.ref h'.objs.size) s') ho e (er.mono fun v b ⟨as, r⟩ => ⟨as, PyProof.Rows.Reads.keeps kp r, fun hm => by
      obtain ⟨o, q⟩ := PyProof.On.reads_mem_get r _ hm
      exact absurd (Heap.lt_size (hk' _ _ q)) (Nat.lt_irrefl _)⟩) hal hk hL (fun b hb => by
      have := hu b hb
      show A.in1.units + 1 + (enc b).depth < cLine
      have e1 : A.in1.units = A.units + 1 := rfl
      omega) fun out hl eo => ?_
  · refine wpAny_bind (wpAny_holding (wpAny_mono hg (fun _ s' x => wpAny_pure ⟨_, rfl, x⟩) fun _ _ e => e))
  · obtain ⟨c, hc⟩ := sortedHeap_at (vs := us) (out := List.toArray out) ho
    have kq : ∀ b o, h'.get? b = some o → (h'.push { cls := .type "list", data := .seq us.toArray }).get? b = some o := fun b o q => Heap.get?_push_of_some _ q
    exact h out h' _ tk c hk' (fun b o q => (sortedHeap_old (Nat.ne_of_lt (Heap.lt_size q)) (Heap.lt_size (kq b o q))).trans (kq b o q)) hc eo
end
/-! ### as data -/
def sortLe : PyData → PyData → Bool := PySem.W.dataLe false id
def sortOk (ds : List PyData) : Bool := (ds.all fun d => shp d && ds.all fun e => PySem.W.alike d e) && ((ds.all fun d => match d with | .tuple (_ :: _) => true | _ => false) || ds.all fun d => match d with | .none => false | .tuple _ => false | _ => true)
def sortL (ds : List PyData) : Option PyData := if sortOk ds = true ∧ ds.length ≤ lim then some (.list (ds.mergeSort sortLe)) else none
def sorted1 : PyData → Option PyData
  | .list ds => sortL ds
  | .tuple ds => sortL ds
  | .dict kvs => sortL (kvs.map (·.1))
  | _ => none
abbrev sortedD : List PyData → Option PyData := arg1 sorted1
section
variable {X : Cx} {Z : Pm} {W : WX} {pins : List (Addr × Obj)} {σ : L2.St} {H : Hp} {s : Shared}
theorem each_of (I : Inv X pins σ H s) {G : Hp} : ∀ {xs : List V} {us : List Value} {ds : List PyData}, Vals xs us → DrL X.K G xs ds → PySem.W.EachIs (fun u (b : V × PyData) => RelV b.1 u ∧ Dr X.K G b.1 b.2) us (xs.zip ds)
  | _, _, _, .nil, .nil => .nil
  | _, _, _, .cons a t, .cons b r => .cons ⟨a, b⟩ (each_of I t r)
theorem reads_of (I : Inv X pins σ H s) {G : Hp} (g : Same G H) : ∀ {xs : List V} {us : List Value} {ds : List PyData}, (∀ d ∈ ds, shp d = true) → Vals xs us → DrL X.K G xs ds → PySem.W.EachIs (fun u (b : V × PyData) => ∃ as, Reads s.heap u b.2 as) us (xs.zip ds)
  | _, _, _, _, .nil, .nil => .nil
  | x :: xs, u :: us, d :: ds, h, .cons a t, .cons b r => .cons (Dp.reads I d x u ((b.mono g).dp (SeqAt.canLay_of_shaped (h d (by simp)))) a) (reads_of I g (fun d hd => h d (by simp [hd])) t r)
theorem of_each {G : Hp} : ∀ {us : List Value} {bs : List (V × PyData)}, PySem.W.EachIs (fun u (b : V × PyData) => RelV b.1 u ∧ Dr X.K G b.1 b.2) us bs → Vals (bs.map (·.1)) us ∧ DrL X.K G (bs.map (·.1)) (bs.map (·.2))
  | _, _, .nil => ⟨.nil, .nil⟩
  | _, _, .cons a t => by
    obtain ⟨h1, h2⟩ := of_each t
    exact ⟨.cons a.1 h1, .cons a.2 h2⟩
theorem zip_snd {G : Hp} {xs : List V} {ds : List PyData} (h : DrL X.K G xs ds) : (xs.zip ds).map (·.2) = ds := by
  have hl := h.len
  induction xs generalizing ds with
  | nil =>
    cases h
    rfl
  | cons x r ih =>
    cases h with
    | cons a t =>
      simp only [List.zip_cons_cons, List.map_cons]
      rw [ih t t.len]
theorem sorted_go {v : Value} {G : Hp} {xs : List V} {ds : List PyData} {z : PyData} {Q : VK} (I : Inv X pins σ H s) (hu : X.A.units + 80 < cLine) (g : Same G H) (hd : DrL X.K G xs ds) (hz : sortL ds = some z) (q : ∀ v H', Same H H' → Dr X.K (grow G H H') v z → Q v H')
    (hcol : ∀ (Q' : List Value → Shared → Prop), (∀ us h' tk, Vals xs us → (∀ b o, s.heap.get? b = some o → h'.get? b = some o) → Q' us { s with heap := h', toks := tk }) → wpAny (model X.prog X.w) X.A.in1 (collect v) Q' X.xe s) :
    wpAny (model X.prog X.w) X.A (call (.builtin "sorted") [v]) (EP X pins σ Q) X.xe s := by
  obtain ⟨⟨ok, hl⟩, rfl⟩ := ite_some hz
  unfold sortOk at ok
  rw [Bool.and_eq_true, List.all_eq_true] at ok
  obtain ⟨ok1, ok2⟩ := ok
  have sh : ∀ d ∈ ds, shp d = true := fun d hd => (Bool.and_eq_true _ _ ▸ ok1 d hd).1
  have al : PySem.W.AllAlike ds := fun d hd d' hd' => List.all_eq_true.mp (Bool.and_eq_true _ _ ▸ ok1 d hd).2 d' hd'
  have es := zip_snd hd
  have hlen : (xs.zip ds).length = ds.length := by rw [List.length_zip, hd.len, Nat.min_self]
  refine sorted_core (bs := xs.zip ds) (enc := fun b => b.2) hcol (fun us rv => each_of I rv hd) (fun us rv => reads_of I g sh rv hd) (by rw [es]; exact al) ?_ (by rw [hlen]; exact lim_sz hl) (fun b hb => ?_) fun out h0 h' tk c k0 k1 ho eo => ?_
  · rw [es]
    rcases Bool.or_eq_true _ _ ▸ ok2 with k | k
    · refine .inl fun d hd => ?_
      have := List.all_eq_true.mp k d hd
      cases d with
      | tuple r =>
        cases r with
        | nil => cases this
        | cons a t => exact ⟨a, t, rfl⟩
      | _ => cases this
    · refine .inr fun d hd => ?_
      have := List.all_eq_true.mp k d hd
      cases d with
      | none => cases this
      | tuple r => cases this
      | _ => exact ⟨(fun z => nomatch z), fun _ z => nomatch z⟩
  · have : b.2 ∈ ds := by
      rw [← es]
      exact List.mem_map_of_mem hb
    have := shp_depth (sh _ this)
    omega
  · obtain ⟨w1, w2⟩ := of_each eo
    have em : ((xs.zip ds).mergeSort (PySem.W.dataLe false fun b => b.2)).map (·.2) = ds.mergeSort sortLe := by
      refine (List.map_mergeSort (r := PySem.W.dataLe false fun b : V × PyData => b.2) (s := sortLe) (f := fun b : V × PyData => b.2) (fun a _ b _ => rfl)).trans ?_
      rw [es]
    rw [em] at w2
    have I0 : Inv X pins σ H { s with heap := h0 } := I.kept (t' := s.toks) k0
    have hn : H h0.objs.size = none := I0.hok.fresh (Nat.le_refl _)
    refine ⟨.ref h0.objs.size, upd H h0.objs.size (.lst _), I0.laid (t' := tk) k1 (Nat.le_refl _) ⟨?_, out, c, w1, ho⟩, rfl, q _ _ (same_new hn) (.lst (SqL.of (grow_at g hn)) (w2.mono grow_same))⟩
    rw [List.length_map, (List.mergeSort_perm _ _).length_eq, hlen]
    exact lim_sz hl
theorem drk_keys {K : PySem.W.Frag} {G : Hp} : ∀ {kv : List (Key × V)} {kvs : List (PyData × PyData)}, DrK K G kv kvs → DrL K G (kv.map fun p => kV p.1) (kvs.map (·.1))
  | _, _, .nil => .nil
  | _, _, .cons _ b => .cons (dr_kV _) (drk_keys b)
theorem cd_sorted (hK : X.K = Z.K) (hc : X.calm = true) (hu : X.A.units + 80 < cLine) : CallR X (.builtin "sorted") (rDc Z.K sortedD) := by
  intro pins s σ H xs us Q I r ⟨G, ds, z, g, hd, hg, q⟩
  rw [← hK] at hd q
  cases ds with
  | nil => cases hg
  | cons d t =>
    cases t with
    | cons a b => cases hg
    | nil =>
      obtain ⟨x, rfl, hx⟩ := drl_one hd
      obtain ⟨u, rfl, rx⟩ := vals1 r
      have hg : sorted1 d = some z := hg
      cases hx with
      | lst h1 h2 =>
        cases rx
        obtain ⟨its, rv, pl, hz⟩ := I.list (same_l g h1)
        exact sorted_go I hu g h2 hg q fun Q' k => collect_list pl.isList (k _ _ _ rv fun b o e => (Heap.get?_update_other _ _ (Ne.symm (Nat.ne_of_lt (Heap.lt_size e)))).trans (Heap.get?_push_of_some _ e)) (by rw [← rv.length]; exact hz)
      | tup h1 h2 =>
        cases rx
        obtain ⟨its, rv, pl, hz⟩ := I.tuple (h1.sqT g)
        exact sorted_go I hu g h2 hg q fun Q' k => collect_tuple (show s.heap.IsTuple _ its.toArray from pl) (k _ _ _ rv fun b o e => (Heap.get?_update_other _ _ (Ne.symm (Nat.ne_of_lt (Heap.lt_size e)))).trans (Heap.get?_push_of_some _ e)) (by rw [← rv.length]; exact hz)
      | @dK a o kv kvs h1 h2 =>
        cases rx
        obtain ⟨zl, lo, vs, rel, dd⟩ := dk_rd I.hok (.inr ⟨_, g _ _ h1⟩)
        obtain ⟨ep, hat⟩ := dd.dictAt
        have ek : (kv.map fun p => kV p.1) = vs.map fun p => kV p.1 := by
          have e := congrArg (List.map kV) rel.keys
          rw [List.map_map, List.map_map] at e
          exact e
        have hdk : DrL X.K G (kv.map fun p => kV p.1) (kvs.map (·.1)) := by
          exact drk_keys h2
        have hz2 : sortL (kvs.map (·.1)) = some z := hg
        refine sorted_go I hu g hdk hz2 q fun Q' k => ?_
        have hh : X.A.in1.handled = none := I.ok.hd hc
        refine PySem.W.kdu_collect (PySem.W.kdl_dict (knd := mixKind X.prog X.w) (kvs := vs) (ep := ep) lo) hh hat (by rw [← rel.length]; exact zl) fun h' tk acc hk hacc => ?_
        refine k _ _ _ ?_ hk
        rw [ek]
        exact keys_at (by rw [Array.length_toList]; exact hacc.1) fun j v e => hacc.2 j v (by rw [← Array.getElem?_toList]; exact e)
      | _ => cases hg
end
end DL

/-! D11: list(zip(a, b)). -/
namespace DL
open PySem PySem.Spec PyProof.Rows L2
section
variable {prog : Program} {w : World} {A : Around} {E : Value → Shared → Prop} {s : Shared} {z TI TO T i1 i2 : Addr} {fp1 fp2 : List Addr} {n1 n2 i : Nat} {P1 P2 : Nat → Value → Prop} {St1 St2 : Nat → Heap → Prop} {f : Bool} {oT : Obj}
theorem zip2_held_item {Q : Value → Shared → Prop} (S : ZipSep2 z TI TO i1 i2 fp1 fp2) (D1 : Draws prog w A i1 fp1 n1 P1 St1) (D2 : Draws prog w A i2 fp2 n2 P2 St2)
    (hz : IsZipHeld s.heap z TI TO T f) (hT : s.heap.get? T = some oT) (hTI : IsTupOf2 s.heap TI (.ref i1) (.ref i2)) (st1 : St1 i s.heap) (st2 : St2 i s.heap) (hlt1 : i < n1) (hlt2 : i < n2)
    (hQ : ∀ x1 x2 h' tk, P1 i x1 → P2 i x2 → IsZipHeld h' z TI TO T true → St1 (i + 1) h' → St2 (i + 1) h' → IsTupOf2 h' s.heap.objs.size x1 x2 →
      (∀ c o, c ≠ z → c ≠ i1 → c ≠ i2 → s.heap.get? c = some o → h'.get? c = some o) → Q (.ref s.heap.objs.size) { s with heap := h', toks := tk }) :
    wpAny (model prog w) A (Builtin.«zip.__next__» ⟨[.ref z], []⟩) (fun fin s' => ∃ v, fin = .done (.ret v) ∧ Q v s') E s := by
  obtain ⟨hp, g, d, tk0, os⟩ := s
  show wpAny _ _ (field (.ref z) 2 >>= _) _ _ _
  refine wpAny_bind (wpAny_field hz rfl (x := .bool false) rfl ?_)
  show wpAny _ _ (field (.ref z) 3 >>= _) _ _ _
  refine wpAny_bind (wpAny_field hz rfl (x := .ref TI) rfl ?_)
  refine wpAny_bind (wpAny_seqItems hTI rfl ?_)
  show wpAny _ _ (Builtin.SmallTypes.ownedTupleIsFree (.ref z) >>= _) _ _ _
  refine wpAny_bind (wpAny_tupleHeld_zip hz hT fun h₁ hz₁ hs₁ => ?_)
  replace hs₁ : Heap.SameBut z hp h₁ := hs₁
  simp only [Bool.false_eq_true, if_false]
  refine wpAny_bind ?_
  rw [← Array.forIn_toList]
  simp only [List.forIn_cons, List.forIn_nil]
  refine wpAny_bind (wpAny_bind (wpAny_holding ?_))
  show wpAny _ _ (Builtin.SmallTypes.nextOf (.ref i1) >>= _) _ _ ⟨h₁, g, d, tk0, os⟩
  refine wpAny_bind (D1.item i _ _ _ hlt1 (D1.over st1 hs₁ S.zf1) fun x1 p1 tk1 hx1 sn1 hp1 => wpAny_pure ?_)
  replace hp1 : Heap.SameBut i1 h₁ p1 := hp1
  refine wpAny_pure ?_
  refine wpAny_bind (wpAny_bind (wpAny_holding ?_))
  show wpAny _ _ (Builtin.SmallTypes.nextOf (.ref i2) >>= _) _ _ ⟨p1, g, d, tk1, os⟩
  refine wpAny_bind (D2.item i _ _ _ hlt2 (D2.over (D2.over st2 hs₁ S.zf2) hp1 S.sep1_2) fun x2 p2 tk2 hx2 sn2 hp2 => wpAny_pure ?_)
  replace hp2 : Heap.SameBut i2 p1 p2 := hp2
  refine wpAny_pure (wpAny_pure ?_)
  show wpAny _ _ (newTuple [x1, x2] >>= _) _ _ _
  refine wpAny_bind (wpAny_newTuple ?_)
  have hsz : p2.objs.size = hp.objs.size := by rw [hp2.1, hp1.1, hs₁.1]
  have hz₃ : IsZipHeld p2 z TI TO T true := hp2.extBut _ _ S.zi2 (hp1.extBut _ _ S.zi1 hz₁)
  have hk : ∀ c o, c ≠ z → c ≠ i1 → c ≠ i2 → hp.get? c = some o → p2.get? c = some o := fun c o c1 c2 c3 e => hp2.extBut _ _ c3 (hp1.extBut _ _ c2 (hs₁.extBut _ _ c1 e))
  refine wpAny_pure ⟨_, rfl, ?_⟩
  show Q (.ref p2.objs.size) _
  have hpr : IsTupOf2 (p2.push { cls := .type "tuple", data := .seq #[x1, x2] }) p2.objs.size x1 x2 := Heap.get?_push_size _ rfl
  have kp : ∀ c o, p2.get? c = some o → (p2.push { cls := .type "tuple", data := .seq #[x1, x2] }).get? c = some o := fun c o e => Heap.get?_push_of_some _ e
  rw [hsz] at hpr ⊢
  exact hQ x1 x2 _ tk2 hx1 hx2 (kp _ _ hz₃) (D1.frame _ _ _ (D1.over sn1 hp2 S.sep2_1) fun b _ o e => kp _ _ e) (D2.frame _ _ _ sn2 fun b _ o e => kp _ _ e) hpr fun c o c1 c2 c3 e => kp _ _ (hk c o c1 c2 c3 e)
theorem zip2_held_end {Q : Fin → Shared → Prop} (S : ZipSep2 z TI TO i1 i2 fp1 fp2) (D1 : Draws prog w A i1 fp1 n1 P1 St1) (D2 : Draws prog w A i2 fp2 n2 P2 St2)
    (hz : IsZipHeld s.heap z TI TO T f) (hT : s.heap.get? T = some oT) (hTI : IsTupOf2 s.heap TI (.ref i1) (.ref i2)) (st1 : St1 i s.heap) (st2 : St2 i s.heap) (hle1 : i ≤ n1) (hle2 : i ≤ n2) (hend : i = n1 ∨ i = n2)
    (hE : ∀ h' tk e, (∀ c o, c ≠ z → c ≠ i1 → c ≠ i2 → s.heap.get? c = some o → h'.get? c = some o) → (∃ o, h'.get? e = some o ∧ o.cls = .type "StopIteration") → E (.ref e) { s with heap := h', toks := tk }) :
    wpAny (model prog w) A (Builtin.«zip.__next__» ⟨[.ref z], []⟩) Q E s := by
  obtain ⟨hp, g, d, tk0, os⟩ := s
  show wpAny _ _ (field (.ref z) 2 >>= _) _ _ _
  refine wpAny_bind (wpAny_field hz rfl (x := .bool false) rfl ?_)
  show wpAny _ _ (field (.ref z) 3 >>= _) _ _ _
  refine wpAny_bind (wpAny_field hz rfl (x := .ref TI) rfl ?_)
  refine wpAny_bind (wpAny_seqItems hTI rfl ?_)
  show wpAny _ _ (Builtin.SmallTypes.ownedTupleIsFree (.ref z) >>= _) _ _ _
  refine wpAny_bind (wpAny_tupleHeld_zip hz hT fun h₁ hz₁ hs₁ => ?_)
  replace hs₁ : Heap.SameBut z hp h₁ := hs₁
  simp only [Bool.false_eq_true, if_false]
  refine wpAny_bind ?_
  rw [← Array.forIn_toList]
  simp only [List.forIn_cons, List.forIn_nil]
  refine wpAny_bind (wpAny_bind (wpAny_holding ?_))
  show wpAny _ _ (Builtin.SmallTypes.nextOf (.ref i1) >>= _) _ _ ⟨h₁, g, d, tk0, os⟩
  by_cases hlt1 : i < n1
  · refine wpAny_bind (D1.item i _ _ _ hlt1 (D1.over st1 hs₁ S.zf1) fun x1 p1 tk1 hx1 sn1 hp1 => wpAny_pure ?_)
    replace hp1 : Heap.SameBut i1 h₁ p1 := hp1
    refine wpAny_pure ?_
    refine wpAny_bind (wpAny_bind (wpAny_holding ?_))
    show wpAny _ _ (Builtin.SmallTypes.nextOf (.ref i2) >>= _) _ _ ⟨p1, g, d, tk1, os⟩
    have hi2 : i = n2 := by omega
    refine wpAny_bind (D2.done ⟨p1, g, d, tk1, os⟩ _ _ (by rw [← hi2]; exact D2.over (D2.over st2 hs₁ S.zf2) hp1 S.sep1_2) fun q e hq he => ?_)
    exact hE q tk1 e (fun c o c1 c2 c3 x => hq _ _ c3 (hp1.extBut _ _ c2 (hs₁.extBut _ _ c1 x))) he
  · have hi1 : i = n1 := by omega
    refine wpAny_bind (D1.done ⟨h₁, g, d, tk0, os⟩ _ _ (by rw [← hi1]; exact D1.over st1 hs₁ S.zf1) fun q e hq he => ?_)
    exact hE q tk0 e (fun c o c1 c2 c3 x => hq _ _ c2 (hs₁.extBut _ _ c1 x)) he
/-- a zip's state as its pairs are kept -/
def ZS2 (S : Addr) (z TI TO i1 i2 : Addr) (b1 b2 : Bool) (a1 a2 : Addr) (xs ys : Array Value) (i : Nat) (h : Heap) : Prop :=
  ((IsZip h z TI TO .none ∧ ∃ x y, IsTupOf2 h TO x y) ∨ ∃ T f oT, IsZipHeld h z TI TO T f ∧ h.get? T = some oT ∧ T ≠ S ∧ T ≠ z ∧ T ≠ i1 ∧ T ≠ i2 ∧ ∃ o, h.get? TO = some o) ∧ IsTupOf2 h TI (.ref i1) (.ref i2) ∧ (SI b1 h i1 a1 i ∧ SO b1 h a1 xs) ∧ SI b2 h i2 a2 i ∧ SO b2 h a2 ys
theorem ZS2.keep {S z TI TO i1 i2 : Addr} {b1 b2 : Bool} {a1 a2 : Addr} {xs ys : Array Value} {i : Nat} {h h' : Heap} (x : ZS2 S z TI TO i1 i2 b1 b2 a1 a2 xs ys i h) (hS : S ∉ [z, TI, TO, i1, i2, a1, a2]) (k : ∀ b o, b ≠ S → h.get? b = some o → h'.get? b = some o) : ZS2 S z TI TO i1 i2 b1 b2 a1 a2 xs ys i h' := by
  simp only [List.mem_cons, List.not_mem_nil, or_false, not_or] at hS
  obtain ⟨e1, e2, e3, e4, e5, e6, e7⟩ := hS
  obtain ⟨q1, q2, ⟨q3, q4⟩, q5, q6⟩ := x
  refine ⟨?_, k _ _ (Ne.symm e2) q2, ⟨q3.at fun o e => k _ _ (Ne.symm e4) e, ?_⟩, q5.at fun o e => k _ _ (Ne.symm e5) e, ?_⟩
  · rcases q1 with ⟨w1, x, y, w2⟩ | ⟨T, f, oT, w1, w2, w3⟩
    · exact .inl ⟨k _ _ (Ne.symm e1) w1, x, y, k _ _ (Ne.symm e3) w2⟩
    · obtain ⟨w4, w5, w6, w7, o, w8⟩ := w3
      exact .inr ⟨T, f, oT, k _ _ (Ne.symm e1) w1, k _ _ w4 w2, w4, w5, w6, w7, o, k _ _ (Ne.symm e3) w8⟩
  · cases b1 with
    | true => exact Heap.IsList.at q4 fun o e => k _ _ (Ne.symm e6) e
    | false => exact Heap.IsTuple.at q4 fun o e => k _ _ (Ne.symm e6) e
  · cases b2 with
    | true => exact Heap.IsList.at q6 fun o e => k _ _ (Ne.symm e7) e
    | false => exact Heap.IsTuple.at q6 fun o e => k _ _ (Ne.symm e7) e
end
section
variable {prog : Program} {w : World} {A : Around} {E : Value → Shared → Prop} {s : Shared} {S z TI TO i1 i2 a1 a2 : Addr} {b1 b2 : Bool} {xs ys : Array Value} {i : Nat}
theorem lt_eq {a b c : Nat} (e : a = b) (h : b < c) : a < c := by omega
theorem zs2_next {Q : Option Value → Shared → Prop} (D : ZipSep2 z TI TO i1 i2 [i1, a1] [i2, a2]) (n1 : a1 ≠ i1) (n2 : a2 ≠ i2) (hh : A.handled = none) (hS : S < s.heap.objs.size) (st : ZS2 S z TI TO i1 i2 b1 b2 a1 a2 xs ys i s.heap) {x y : Value} (hx : xs[i]? = some x) (hy : ys[i]? = some y)
    (hQ : ∀ h' tk, ZS2 S z TI TO i1 i2 b1 b2 a1 a2 xs ys (i + 1) h' → IsTupOf2 h' s.heap.objs.size x y → (∀ c o, c ∉ [z, TO, i1, i2] → s.heap.get? c = some o → h'.get? c = some o) → Q (some (.ref s.heap.objs.size)) { s with heap := h', toks := tk }) :
    wpAny (model prog w) A (pyNext (.ref z)) Q E s := by
  obtain ⟨q1, q2, q3, q4⟩ := st
  have l1 := (Array.getElem?_eq_some_iff.mp hx).1
  have l2 := (Array.getElem?_eq_some_iff.mp hy).1
  have nS : s.heap.objs.size ≠ S := Nat.ne_of_gt hS
  have hA : A.in1.handled = none := hh
  have li1 : s.heap.objs.size ≠ i1 := by
    obtain ⟨o, e, _⟩ := q3.1.obj
    exact Nat.ne_of_gt (Heap.lt_size e)
  have li2 : s.heap.objs.size ≠ i2 := by
    obtain ⟨o, e, _⟩ := q4.1.obj
    exact Nat.ne_of_gt (Heap.lt_size e)
  rcases q1 with ⟨w1, x0, y0, w2⟩ | ⟨T, f, oT, w1, w2, w3⟩
  · refine wpAny_pyNext_zipD2_item D (draws_seq b1 hA i1 a1 n1 xs) (draws_seq b2 hA i2 a2 n2 ys) w1 q2 w2 q3 q4 l1 l2 fun x1 x2 h' tk p1 p2 z' TO' s1 s2 hT hsz hk => ?_
    have e1 : x1 = x := Option.some.inj (p1.symm.trans hx)
    have e2 : x2 = y := Option.some.inj (p2.symm.trans hy)
    subst e1 e2
    exact hQ h' tk ⟨.inr ⟨_, false, _, z', hT, nS, Nat.ne_of_gt (Heap.lt_size w1), li1, li2, _, TO'⟩, hk _ _ D.TIz D.TITO D.TIi1 D.TIi2 q2, s1, s2⟩ hT fun c o hc e => hk c o (fun q => hc (by simp [q])) (fun q => hc (by simp [q])) (fun q => hc (by simp [q])) (fun q => hc (by simp [q])) e
  · have hTy : s.TypeIs (.ref z) "zip" := ⟨_, w1, rfl⟩
    unfold pyNext
    refine wpAny_bind (wpAny_attempt (wpAny_callSpecial?_slot (name := Str.ofString "__next__") hTy F.slot_zip_next
      (wpAny_call_entry F.slot_zip_next hTy F.entry_zip_next
        (zip2_held_item D (draws_seq b1 hA i1 a1 n1 xs) (draws_seq b2 hA i2 a2 n2 ys) w1 w2 q2 q3 q4 l1 l2 fun x1 x2 h' tk p1 p2 z' s1 s2 hT hk => wpAny_pure ?_) (F.args_zip_next_1 _))))
    have e1 : x1 = x := Option.some.inj (p1.symm.trans hx)
    have e2 : x2 = y := Option.some.inj (p2.symm.trans hy)
    subst e1 e2
    obtain ⟨w4, w5, w6, w7, o, w8⟩ := w3
    exact hQ h' tk ⟨.inr ⟨T, true, oT, z', hk _ _ w5 w6 w7 w2, w4, w5, w6, w7, o, hk _ _ D.TOz D.Ti1 D.Ti2 w8⟩, hk _ _ D.TIz D.TIi1 D.TIi2 q2, s1, s2⟩ hT fun c o hc e => hk c o (fun q => hc (by simp [q])) (fun q => hc (by simp [q])) (fun q => hc (by simp [q])) e
theorem zs2_end {Q : Option Value → Shared → Prop} (D : ZipSep2 z TI TO i1 i2 [i1, a1] [i2, a2]) (n1 : a1 ≠ i1) (n2 : a2 ≠ i2) (hh : A.handled = none) (st : ZS2 S z TI TO i1 i2 b1 b2 a1 a2 xs ys i s.heap) (h1 : i ≤ xs.size) (h2 : i ≤ ys.size) (h3 : i = xs.size ∨ i = ys.size)
    (hQ : ∀ h' tk, (∀ c o, c ∉ [z, TO, i1, i2] → s.heap.get? c = some o → h'.get? c = some o) → Q none { s with heap := h', toks := tk }) :
    wpAny (model prog w) A (pyNext (.ref z)) Q E s := by
  obtain ⟨q1, q2, q3, q4⟩ := st
  have hA : A.in1.handled = none := hh
  rcases q1 with ⟨w1, x0, y0, w2⟩ | ⟨T, f, oT, w1, w2, w3⟩
  · exact wpAny_pyNext_zipD2_end D (draws_seq b1 hA i1 a1 n1 xs) (draws_seq b2 hA i2 a2 n2 ys) w1 q2 w2 q3 q4 h1 h2 h3 fun h' tk hk => hQ h' tk fun c o hc e => hk c o (fun q => hc (by simp [q])) (fun q => hc (by simp [q])) (fun q => hc (by simp [q])) (fun q => hc (by simp [q])) e
  · have hTy : s.TypeIs (.ref z) "zip" := ⟨_, w1, rfl⟩
    unfold pyNext
    refine wpAny_bind (wpAny_attempt (wpAny_callSpecial?_slot (name := Str.ofString "__next__") hTy F.slot_zip_next
      (wpAny_call_entry F.slot_zip_next hTy F.entry_zip_next
        (zip2_held_end D (draws_seq b1 hA i1 a1 n1 xs) (draws_seq b2 hA i2 a2 n2 ys) w1 w2 q2 q3 q4 h1 h2 h3 fun h' tk e hk he => ?_) (F.args_zip_next_1 _))))
    obtain ⟨o, ho, hc⟩ := he
    refine wpAny_bind (wpAny_isInstance (T := "StopIteration") (b := true) ⟨o, ho, hc⟩ isSubtype_stop ?_)
    exact wpAny_pure (hQ _ tk fun c o hc e => hk c o (fun q => hc (by simp [q])) (fun q => hc (by simp [q])) (fun q => hc (by simp [q])) e)
/-- the pairs that lie in the list so far -/
def PairsAt (h0 : Heap) (S : Addr) (fr : Addr → Prop) (xs ys acc : Array Value) (i : Nat) (h : Heap) : Prop := acc.size = i ∧ acc.toList.Nodup ∧ ∀ (j : Nat) (v : Value), acc[j]? = some v → ∃ (T : Addr) (x y : Value), v = Value.ref T ∧ xs[j]? = some x ∧ ys[j]? = some y ∧ IsTupOf2 h T x y ∧ T ≠ S ∧ ¬ fr T ∧ h0.get? T = none
theorem PairsAt.keep {h0 : Heap} {fr : Addr → Prop} {acc : Array Value} {h h' : Heap} (x : PairsAt h0 S fr xs ys acc i h) (k : ∀ b o, b ≠ S → ¬ fr b → h.get? b = some o → h'.get? b = some o) : PairsAt h0 S fr xs ys acc i h' := ⟨x.1, x.2.1, fun j v e => by
  obtain ⟨T, a, b, q1, q2, q3, q4, q5, q6, q7⟩ := x.2.2 j v e
  exact ⟨T, a, b, q1, q2, q3, k _ _ q5 q6 q4, q5, q6, q7⟩⟩
theorem zip2_loop {h0 : Heap} {R : Result → Shared → Prop} (D : ZipSep2 z TI TO i1 i2 [i1, a1] [i2, a2]) (n1 : a1 ≠ i1) (n2 : a2 ≠ i2) (hh : A.handled = none) (hS : S ∉ [z, TI, TO, i1, i2, a1, a2]) (hn : min xs.size ys.size ≤ sizeLine) (hS0 : h0.get? S = none) (res : Value) :
    ∀ (k i : Nat) (s : Shared) (acc : Array Value) (c : Nat), min xs.size ys.size - i = k → i ≤ min xs.size ys.size → (∀ b o, b ∉ [z, TO, i1, i2] → h0.get? b = some o → s.heap.get? b = some o) → ZS2 S z TI TO i1 i2 b1 b2 a1 a2 xs ys i s.heap → s.heap.get? S = some { cls := .type "list", dict := none, data := .seq acc c, slots := #[] } → PairsAt h0 S (fun b => b ∈ [z, TO, i1, i2]) xs ys acc i s.heap →
    (∀ h' tk acc' c', (∀ b o, b ≠ S → b ∉ [z, TO, i1, i2] → s.heap.get? b = some o → h'.get? b = some o) → h'.get? S = some { cls := .type "list", dict := none, data := .seq acc' c', slots := #[] } → PairsAt h0 S (fun b => b ∈ [z, TO, i1, i2]) xs ys acc' (min xs.size ys.size) h' → R (.ok (.ret res)) { s with heap := h', toks := tk }) →
    codeAny (model prog w) A (.builtin "list.extend.loop" ⟨[.ref S, .ref z, res], []⟩) R s := by
  have hSw : S ∉ [z, TO, i1, i2] := fun h => hS (by
    simp only [List.mem_cons, List.not_mem_nil, or_false] at h ⊢
    rcases h with h | h | h | h <;> simp [h])
  intro k
  induction k with
  | zero =>
    intro i s acc c hk hi h00 hst hL hacc hR
    have hin : i = min xs.size ys.size := by omega
    refine codeAny_builtin PySem.F.entry_extend_loop ?_
    rw [Around.under_plainId PySem.F.plain_extend_loop _]
    show wpAny _ A.in1 (pyNext (.ref z) >>= _) _ _ s
    refine wpAny_bind (zs2_end (A := A.in1) D n1 n2 hh hst (by omega) (by omega) (by omega) fun h' tk hk' => ?_)
    exact wpAny_pure (hR h' tk acc c (fun b o _ hb e => hk' b o hb e) (hk' S _ hSw hL) (by
      rw [hin] at hacc
      exact hacc.keep fun b o _ hb e => hk' b o hb e))
  | succ k ih =>
    intro i s acc c hk hi h00 hst hL hacc hR
    have hx : xs[i]? = some xs[i] := Array.getElem?_eq_getElem (by omega)
    have hy : ys[i]? = some ys[i] := Array.getElem?_eq_getElem (by omega)
    refine codeAny_builtin PySem.F.entry_extend_loop ?_
    rw [Around.under_plainId PySem.F.plain_extend_loop _]
    show wpAny _ A.in1 (pyNext (.ref z) >>= _) _ _ s
    have hSl := Heap.lt_size hL
    have nS : s.heap.objs.size ≠ S := Nat.ne_of_gt hSl
    have nW : s.heap.objs.size ∉ [z, TO, i1, i2] := fun hm => by
      have q : s.heap.objs.size < s.heap.objs.size := by
        simp only [List.mem_cons, List.not_mem_nil, or_false] at hm
        obtain ⟨q1, q2, q3, q4⟩ := hst
        rcases hm with e | e | e | e
        · rcases q1 with ⟨w1, _⟩ | ⟨T, f, oT, w1, _⟩
          · exact (lt_eq e (Heap.lt_size w1))
          · exact (lt_eq e (Heap.lt_size w1))
        · rcases q1 with ⟨w1, x, y, w2⟩ | ⟨T, f, oT, w1, _, _, _, _, _, o, w8⟩
          · exact (lt_eq e (Heap.lt_size w2))
          · exact (lt_eq e (Heap.lt_size w8))
        · obtain ⟨o, eo, _⟩ := q3.1.obj
          exact (lt_eq e (Heap.lt_size eo))
        · obtain ⟨o, eo, _⟩ := q4.1.obj
          exact (lt_eq e (Heap.lt_size eo))
      exact Nat.lt_irrefl _ q
    refine wpAny_bind (zs2_next (A := A.in1) D n1 n2 hh hSl hst hx hy fun h' tk hst' hT hk' => ?_)
    have hL' := hk' S _ hSw hL
    show wpAny _ A.in1 (updateSeq S (·.push (Value.ref s.heap.objs.size)) >>= _) _ _ _
    refine wpAny_bind ?_
    have oth : ∀ b o, b ≠ S → h'.get? b = some o → (h'.update S (Obj.mapSeq (·.push (Value.ref s.heap.objs.size)))).get? b = some o := fun b o hb e => (Heap.get?_update_other _ _ (Ne.symm hb)).trans e
    refine wpAny_updateSeq hL' rfl (wpAny_pure ⟨plainId_quiet PySem.F.plain_extend_loop _, ih (i + 1) _ (acc.push (Value.ref s.heap.objs.size)) _ (by omega) (by omega) (fun b o hb e => oth b o (fun z => by rw [z, hS0] at e; cases e) (hk' b o hb (h00 b o hb e))) (hst'.keep hS oth) (Heap.get?_update_self _ hL' rfl) ?_ fun h2 tk2 acc' c' k2 hL2 hacc2 => ?_⟩)
      (by rw [hacc.1]; omega) (by show (acc.push _).size ≤ sizeLine + 1; rw [Array.size_push, hacc.1]; omega)
    · refine ⟨by rw [Array.size_push, hacc.1], ?_, fun j v hj => ?_⟩
      · rw [Array.toList_push, List.nodup_append]
        refine ⟨hacc.2.1, by simp, fun a ha b hb => ?_⟩
        have eb : b = Value.ref s.heap.objs.size := by simpa using hb
        obtain ⟨j, ej⟩ := List.mem_iff_getElem?.mp ha
        obtain ⟨T, x, y, q1, _, _, q4, _⟩ := hacc.2.2 j a (by rw [← Array.getElem?_toList]; exact ej)
        rw [eb, q1]
        intro z
        have : T = s.heap.objs.size := by injection z
        exact Nat.lt_irrefl _ (lt_eq this.symm (Heap.lt_size q4))
      rw [Array.getElem?_push] at hj
      split at hj
      · rename_i e
        rw [hacc.1] at e
        cases hj
        subst e
        refine ⟨_, _, _, rfl, hx, hy, oth _ _ nS hT, nS, nW, ?_⟩
        cases q : h0.get? s.heap.objs.size with
        | none => rfl
        | some o => exact absurd (Heap.lt_size (h00 _ _ nW q)) (Nat.lt_irrefl _)
      · obtain ⟨T, a, b, q1, q2, q3, q4, q5, q6, q7⟩ := hacc.2.2 j v hj
        exact ⟨T, a, b, q1, q2, q3, oth _ _ q5 (hk' _ _ q6 q4), q5, q6, q7⟩
    · exact hR h2 tk2 acc' c' (fun b o hb hw e => k2 b o hb hw (oth b o hb (hk' b o hw e))) hL2 hacc2
theorem get_ge (h : Heap) : h.get? h.objs.size = none := by
  cases q : h.get? h.objs.size with
  | none => rfl
  | some o => exact absurd (Heap.lt_size q) (Nat.lt_irrefl _)
theorem zip_no_len : typeLookup (.type "zip") "__len__" = pure none := by rw [typeLookup_type, builtinLookup_eq_fast]; kernel_rfl
theorem zip_no_hint : typeLookup (.type "zip") "__length_hint__" = pure none := by rw [typeLookup_type, builtinLookup_eq_fast]; kernel_rfl
theorem call_list_zip2 {Q : Value → Shared → Prop} (D : ZipSep2 z TI TO i1 i2 [i1, a1] [i2, a2]) (n1 : a1 ≠ i1) (n2 : a2 ≠ i2) (hh : A.handled = none) (hn : min xs.size ys.size ≤ sizeLine)
    (hz : IsZip s.heap z TI TO .none) (hTI : IsTupOf2 s.heap TI (.ref i1) (.ref i2)) (hTO : ∃ x y, IsTupOf2 s.heap TO x y) (s1 : SI b1 s.heap i1 a1 0) (o1 : SO b1 s.heap a1 xs) (s2 : SI b2 s.heap i2 a2 0) (o2 : SO b2 s.heap a2 ys)
    (hQ : ∀ h' tk acc c', (∀ b o, b ∉ [z, TO, i1, i2] → s.heap.get? b = some o → h'.get? b = some o) → h'.get? s.heap.objs.size = some { cls := .type "list", dict := none, data := .seq acc c', slots := #[] } →
      PairsAt s.heap s.heap.objs.size (fun b => b ∈ [z, TO, i1, i2]) xs ys acc (min xs.size ys.size) h' → Q (.ref s.heap.objs.size) { s with heap := h', toks := tk }) :
    wpAny (model prog w) A (call (.type "list") [.ref z]) Q E s := by
  have lz : z < s.heap.objs.size := Heap.lt_size hz
  have lTI : TI < s.heap.objs.size := Heap.lt_size hTI
  have lTO : TO < s.heap.objs.size := by
    obtain ⟨x, y, h⟩ := hTO
    exact Heap.lt_size h
  have l1 : i1 < s.heap.objs.size := by
    obtain ⟨o, e, _⟩ := s1.obj
    exact Heap.lt_size e
  have l2 : i2 < s.heap.objs.size := by
    obtain ⟨o, e, _⟩ := s2.obj
    exact Heap.lt_size e
  have hS : s.heap.objs.size ∉ [z, TI, TO, i1, i2, a1, a2] := fun hm => by
    have q1 := o1.lt
    have q2 := o2.lt
    simp only [List.mem_cons, List.not_mem_nil, or_false] at hm
    rcases hm with e | e | e | e | e | e | e
    · exact Nat.lt_irrefl _ (lt_eq e lz)
    · exact Nat.lt_irrefl _ (lt_eq e lTI)
    · exact Nat.lt_irrefl _ (lt_eq e lTO)
    · exact Nat.lt_irrefl _ (lt_eq e l1)
    · exact Nat.lt_irrefl _ (lt_eq e l2)
    · exact Nat.lt_irrefl _ (lt_eq e q1)
    · exact Nat.lt_irrefl _ (lt_eq e q2)
  have st0 : ZS2 s.heap.objs.size z TI TO i1 i2 b1 b2 a1 a2 xs ys 0 s.heap := ⟨.inl ⟨hz, hTO⟩, hTI, ⟨s1, o1⟩, s2, o2⟩
  refine callType_codes (Q₁ := fun obj s₁ => obj = .ref s.heap.objs.size ∧ s₁ = { s with heap := s.heap.push { cls := .type "list", data := .seq #[] } }) PySem.F.called_list (PySem.F.typeCall_list_1 _) PySem.F.entry_list_init
    (code_list_new _ ⟨rfl, rfl⟩) fun obj s₁ h₁ => ?_
  obtain ⟨rfl, rfl⟩ := h₁
  have hL : (s.heap.push { cls := .type "list", data := .seq #[] }).get? s.heap.objs.size = some { cls := .type "list", data := .seq #[] } := Heap.get?_push_size _ rfl
  have k0 : ∀ b o, s.heap.get? b = some o → (s.heap.push { cls := .type "list", data := .seq #[] }).get? b = some o := fun b o e => Heap.get?_push_of_some _ e
  refine ⟨⟨_, hL, rfl⟩, PySem.F.args_list_init_2 _ _, ?_⟩
  show wpAny _ _ (do let old ← Builtin.List.listItems (.ref s.heap.objs.size); Builtin.List.listUpdate (.ref s.heap.objs.size) (fun _ => #[]); letGo old.toList.reverse; Builtin.List.listExtendWith (.ref s.heap.objs.size) (.ref z) .none) _ _ _
  refine wpAny_bind ?_
  unfold Builtin.List.listItems
  refine wpAny_bind (wpAny_seqItems hL rfl (wpAny_pure ?_))
  show wpAny _ _ (updateSeq s.heap.objs.size (fun _ => #[]) >>= fun _ => letGo (#[] : Array Value).toList.reverse >>= fun _ => Builtin.List.listExtendWith (.ref s.heap.objs.size) (.ref z) .none) _ _ _
  refine wpAny_bind (wpAny_updateSeq hL rfl ?_)
  have hL2 := Heap.get?_update_self (Obj.mapSeq (fun _ => (#[] : Array Value))) hL rfl
  generalize eh2 : (s.heap.push { cls := .type "list", data := .seq #[] }).update s.heap.objs.size (Obj.mapSeq (fun _ => (#[] : Array Value))) = h2 at hL2
  have k2 : ∀ b o, s.heap.get? b = some o → h2.get? b = some o := fun b o e => by
    rw [← eh2]
    exact (Heap.get?_update_other _ _ (Ne.symm (Nat.ne_of_lt (Heap.lt_size e)))).trans (k0 b o e)
  refine wpAny_bind (wpAny_letGo ?_)
  unfold Builtin.List.listExtendWith
  have hTy : (⟨h2, s.gens, s.drawn, s.toks, s.os⟩ : Shared).TypeIs (.ref z) "zip" := ⟨_, k2 _ _ hz, rfl⟩
  refine wpAny_bind (wpAny_typeOf hTy ?_)
  have hne : s.heap.objs.size ≠ z := fun e => Nat.lt_irrefl _ (lt_eq e lz)
  have h1 : Builtin.List.listSameRef (.ref s.heap.objs.size) (.ref z) = false := by simp [Builtin.List.listSameRef, hne]
  have e2 : (Value.type "zip" == Value.type "list") = false := by decide
  have e3 : (Value.type "zip" == Value.type "tuple") = false := by decide
  simp only [h1, e2, e3, Bool.or_false, Bool.false_eq_true, if_false]
  have hz2 : IsZip h2 z TI TO .none := k2 _ _ hz
  refine wpAny_bind (wpAny_pyIter_zip hz2 ?_)
  refine wpAny_bind (wpAny_holding ?_)
  unfold Builtin.List.listLengthHint
  refine wpAny_bind (wpAny_specialOf hTy zip_no_len ?_)
  show wpAny _ _ (specialOf (Value.ref z) (Str.ofString "__length_hint__") >>= _) _ _ _
  refine wpAny_bind (wpAny_specialOf hTy zip_no_hint ?_)
  refine wpAny_pure ?_
  show wpAny _ _ (rule "list.extend.makes-room" >>= fun _ => Builtin.List.listTouch (.ref s.heap.objs.size) >>= fun _ =>
    again (.builtin "list.extend.loop" ⟨[.ref s.heap.objs.size, .ref z, .none], []⟩)) _ _ _
  refine wpAny_bind (wpAny_rule ?_)
  refine wpAny_bind ?_
  show wpAny _ _ (updateSeq s.heap.objs.size (·.push .none) >>= fun _ => updateSeq s.heap.objs.size (·.pop)) _ _ _
  refine wpAny_bind (wpAny_updateSeq hL2 rfl ?_)
  have hS2 := Heap.get?_update_self (Obj.mapSeq (·.push Value.none)) hL2 rfl
  refine wpAny_updateSeq (hz := by seq_fits) hS2 rfl ?_
  have hS3 := Heap.get?_update_self (Obj.mapSeq (·.pop)) hS2 rfl
  have oth : ∀ b o, b ≠ s.heap.objs.size → h2.get? b = some o → ((h2.update s.heap.objs.size (Obj.mapSeq (·.push Value.none))).update s.heap.objs.size (Obj.mapSeq (·.pop))).get? b = some o :=
    fun b o hb e => (Heap.get?_update_other _ _ (Ne.symm hb)).trans ((Heap.get?_update_other _ _ (Ne.symm hb)).trans e)
  have st3 := (st0.keep hS fun b o hb e => k2 b o e).keep hS oth
  refine wpAny_pure ⟨plainId_quiet PySem.F.plain_extend_loop _, zip2_loop (A := A.in1) D n1 n2 hh hS hn (get_ge _) .none _ 0 _ _ _ rfl (Nat.zero_le _) (fun b o _ e => oth b o (Nat.ne_of_lt (Heap.lt_size e)) (k2 b o e)) st3 hS3 ⟨rfl, by simp, fun j v e => by simp at e⟩ fun h' tk acc' c' k hL' hacc => ⟨rfl, ?_⟩⟩
  exact hQ h' tk acc' c' (fun b o hb e => k b o (Nat.ne_of_lt (Heap.lt_size e)) hb (oth b o (Nat.ne_of_lt (Heap.lt_size e)) (k2 b o e))) hL' hacc
end
section
variable {X : Cx} {Z : Pm} {W : WX}
theorem Inv.many {pins : List (Addr × Obj)} {σ : L2.St} {H H' : Hp} {s : Shared} {h' : Heap} {t' : Nat} (I : Inv X pins σ H s) (k : ∀ b o, s.heap.get? b = some o → h'.get? b = some o) (e : Same H H') (hf : ∀ b o, H' b = some o → H b = none → s.heap.get? b = none ∧ ObjOk X.prog X.w H' h' b o) :
    Inv X pins σ H' { s with heap := h', toks := t' } := by
  refine I.un ⟨fun b u q _ _ _ => k b u q, fun b u q _ _ _ => ⟨u.slots, k b u q⟩, fun b u q n _ => ?_, fun b u q _ => ⟨u, k b u q⟩, fun b xs q => e _ _ q, fun b u xs q => e _ _ q, fun b ps q => ⟨#[], by rw [e _ _ q]; simp⟩⟩ fun b o q => ?_
  · cases z : H' b with
    | none => rfl
    | some o =>
      have := (hf b o z n).1
      rw [this] at q
      cases q
  · cases z : H b with
    | none => exact (hf b o q z).2
    | some o' =>
      rw [e _ _ z] at q
      cases q
      exact (I.hok b _ z).stay (fun c v _ q => k c v q) (fun c q => e _ _ q) fun c xs q => e _ _ q
theorem find_at {α β : Type} [DecidableEq α] : ∀ {ts : List α} {ps : List β} {j : Nat} {t : α} {p : β}, ts.Nodup → ts[j]? = some t → ps[j]? = some p → (ts.zip ps).find? (fun q => decide (q.1 = t)) = some (t, p)
  | [], _, _, _, _, _, h, _ => by simp at h
  | _ :: _, [], _, _, _, _, _, h => by simp at h
  | a :: r, b :: s, 0, t, p, hn, h1, h2 => by
    simp at h1 h2
    simp [h1, h2]
  | a :: r, b :: s, j + 1, t, p, hn, h1, h2 => by
    have h1' : r[j]? = some t := by simpa using h1
    have hne : a ≠ t := fun z => by
      rw [List.nodup_cons] at hn
      exact hn.1 (by rw [z]; exact List.mem_of_getElem? h1')
    rw [List.zip_cons_cons, List.find?_cons, decide_eq_false hne]
    exact find_at (List.nodup_cons.mp hn).2 h1' (by simpa using h2)
/-- the heap with the pairs and their list -/
def pairsH (H : Hp) (h2 : Heap) (L : Addr) (Ts : List Addr) (ps : List (V × V)) : Hp := fun b => match H b with
  | some o => some o
  | none => match (Ts.zip ps).find? (fun q => decide (q.1 = b)) with
    | some (_, (x, y)) => some (.frz ((h2.get? b).getD { cls := .none, data := .seq #[] }) (.tup [x, y]))
    | none => if b = L then some (.lst (Ts.map V.ref)) else none
theorem nodup_unmap {α β : Type} {f : α → β} : ∀ {l : List α}, (l.map f).Nodup → l.Nodup
  | [], _ => List.nodup_nil
  | a :: r, h => by
    rw [List.map_cons, List.nodup_cons] at h
    rw [List.nodup_cons]
    exact ⟨fun m => h.1 (List.mem_map_of_mem m), nodup_unmap h.2⟩
theorem vals_refs : ∀ Ts : List Addr, Vals (Ts.map V.ref) (Ts.map Value.ref)
  | [] => .nil
  | T :: r => .cons rfl (vals_refs r)
theorem drl_pairs {K : PySem.W.Frag} {G G2 : Hp} : ∀ {xs ys : List V} {ds es : List PyData}, DrL K G2 xs ds → DrL K G2 ys es → ∀ (Ts : List Addr), Ts.length = (zip2T ds es).length → (∀ (j : Nat) (T : Addr) (d e : PyData), Ts[j]? = some T → ds[j]? = some d → es[j]? = some e → Dr K G (.ref T) (.tuple [d, e])) → DrL K G (Ts.map V.ref) (zip2T ds es)
  | _, _, [], _, .nil, _, Ts, hl, _ => by
    cases Ts with
    | nil => exact .nil
    | cons a b => simp [zip2T] at hl
  | _, _, d :: r, [], .cons _ _, .nil, Ts, hl, _ => by
    cases Ts with
    | nil => exact .nil
    | cons a b => simp [zip2T] at hl
  | _, _, d :: r, e :: s, .cons a1 t1, .cons a2 t2, Ts, hl, h => by
    cases Ts with
    | nil => simp [zip2T] at hl
    | cons T b =>
      refine .cons (h 0 T d e rfl rfl rfl) (drl_pairs t1 t2 b (by simpa [zip2T] using hl) fun j T' d' e' q1 q2 q3 => h (j + 1) T' d' e' (by simpa using q1) (by simpa using q2) (by simpa using q3))
theorem de_listZip2 {e1 e2 : Expr} {f : Env → R (List PyData)} {p p2 p3 pos : Pos} (hK : X.K = Z.K) (hc : X.calm = true) (hgl : Gl X "list") (hml : X.mg "list" = none) (hgz : Gl X "zip") (hmz : X.mg "zip" = none) (h : DAs X Z W [e1, e2] f)
    (hs : starEach [e1, e2] X.env = (false, eval e1 X.env) :: starEach [e2] X.env := by rfl) (hpl : (backTo p3 (starEach [e2] X.env)).any (·.1) = false := by rfl)
    (na : starEach [.Call (.Name "zip" p2) [e1, e2] [] p3] X.env = (false, eval (.Call (.Name "zip" p2) [e1, e2] [] p3) X.env) :: starEach [] X.env := by rfl) :
    DE X Z W (.Call (.Name "list" p) [.Call (.Name "zip" p2) [e1, e2] [] p3] [] pos) (fun ρ => (iArgs zip2 f ρ).bind fun ds ρ1 => if ds.length ≤ lim then .ok (.list ds) ρ1 else .bad) := by
  refine ⟨fun pins s σ H Q I q => ?_⟩
  obtain ⟨ρ, G, O, R, P⟩ := q
  have step : T_ Z W (ArgR Z 2) f σ H (fun vs H1 => ∃ b1 b2 a1 a2 xs ys G1 ds es, vs = [.ref a1, .ref a2] ∧ SqB b1 X.K H1 a1 xs ∧ SqB b2 X.K H1 a2 ys ∧ Same G1 H1 ∧ DrL Z.K G1 xs ds ∧ DrL Z.K G1 ys es ∧ (zip2T ds es).length ≤ lim ∧ ∀ v H', Same H1 H' → Dr Z.K (grow G1 H1 H') v (.list (zip2T ds es)) → Q v H') := by
    refine ⟨ρ, G, O, R, ?_⟩
    unfold iArgs at P
    dsimp only at P
    cases ef : f ρ with
    | bad => rw [ef] at P; exact P.elim
    | er x ρ1 => rw [ef] at P; exact P
    | ok dd ρ1 =>
      rw [ef] at P
      intro vs G1 O1 H1 R1 S1 D1
      have P1 : Post Z W (fun G _ _ v d => Dr Z.K G v d) σ G1 O1 H1 Q ((match zip2 dd with | some ds => DL.R.ok ds ρ1 | none => DL.R.bad).bind fun ds ρ1 => if ds.length ≤ lim then .ok (PyData.list ds) ρ1 else .bad) := Post.step S1 P
      cases hr : zip2 dd with
      | none => rw [hr] at P1; exact P1.elim
      | some rs =>
        rw [hr] at P1
        unfold zip2 at hr
        split at hr
        · split at hr
          · rename_i x y k1 k2
            cases hr
            obtain ⟨v, w, rfl, r1, r2⟩ := drl_two D1.1
            obtain ⟨b1, a1, xs, rfl, w1, l1⟩ := dr_seq r1 k1
            obtain ⟨b2, a2, ys, rfl, w2, l2⟩ := dr_seq r2 k2
            have P1 : Post Z W (fun G _ _ v d => Dr Z.K G v d) σ G1 O1 H1 Q (if (zip2T _ _).length ≤ lim then .ok (PyData.list (zip2T _ _)) ρ1 else .bad) := P1
            split at P1
            · rename_i hl
              exact ⟨b1, b2, a1, a2, xs, ys, G1, _, _, rfl, by rw [hK]; exact w1 _ R1.gh, by rw [hK]; exact w2 _ R1.gh, R1.gh, l1, l2, hl, post_pure R1 P1⟩
            · exact P1.elim
          · cases hr
        · cases hr
  refine Call_ (ld_blt I hgl hml boot_list (PyProof.Rows.callWith_type1 (PyProof.Rows.args_cons ?_ na) na rfl))
  refine Call_ (ld_blt I hgz hmz PyProof.Rows.boot_zip (PyProof.Rows.callWith_type1 (thn (h.run p3 pins s σ H _ I step) fun us s1 ⟨vs, H1, I1, r1, q1⟩ => ?_) hs hpl))
  obtain ⟨b1, b2, a1, a2, xs, ys, G1, ds, es, ex, hq1, hq2, g1, l1, l2, hl, q⟩ := q1
  subst ex
  cases r1 with
  | cons r rr =>
    cases rr with
    | cons r' rr =>
      cases rr
      cases r
      cases r'
      obtain ⟨its, rv, p1⟩ := Inv.seqB I1 hq1
      obtain ⟨its2, rv2, p2⟩ := Inv.seqB I1 hq2
      refine zip_begins2 (begins_seq b1 a1 its.toArray) (begins_seq b2 a2 its2.toArray) p1 p2 fun h' hz hTI hTO g1' g2' hsz hk => PyProof.Rows.args_nil ?_
      have I2 : Inv X pins σ H1 { s1 with heap := h' } := I1.kept (t' := s1.toks) hk
      obtain ⟨its3, rv3, p3'⟩ := Inv.seqB I2 hq1
      obtain ⟨its4, rv4, p4'⟩ := Inv.seqB I2 hq2
      have m1 : its3.toArray.size = ds.length := by rw [List.size_toArray, ← rv3.length, l1.len]
      have m2 : its4.toArray.size = es.length := by rw [List.size_toArray, ← rv4.length, l2.len]
      have hmin : min its3.toArray.size its4.toArray.size = (zip2T ds es).length := by rw [m1, m2, zip2T_len]
      refine call_list_zip2 (s := { s1 with heap := h' }) (zip_sep2 (fp1 := [a1]) (fp2 := [a2]) (by simpa using p1.lt) (by simpa using p2.lt)) (Nat.ne_of_lt p1.lt) (Nat.ne_of_lt (Nat.lt_succ_of_lt p2.lt)) (I2.ok.hd hc) (by rw [hmin]; exact lim_sz hl) hz hTI ⟨_, _, hTO⟩ (SI.new g1') p3' (SI.new g2') p4' fun h2 tk acc c' k2 hL hacc => ?_
      let Ts : List Addr := acc.toList.map fun v => match v with | .ref T => T | _ => 0
      let ps : List (V × V) := xs.zip ys
      have hat : ∀ (j : Nat) (v : Value), acc[j]? = some v → ∃ (T : Addr) (x y : Value), v = Value.ref T ∧ its3.toArray[j]? = some x ∧ its4.toArray[j]? = some y ∧ IsTupOf2 h2 T x y ∧ T ≠ h'.objs.size ∧ T ∉ _ ∧ h'.get? T = none := hacc.2.2
      have eTs : acc.toList = Ts.map Value.ref := by
        refine List.ext_getElem? fun j => ?_
        rw [List.map_map, List.getElem?_map]
        cases e : acc.toList[j]? with
        | none => rfl
        | some v =>
          obtain ⟨T, x, y, q1, _⟩ := hat j v (by rw [← Array.getElem?_toList]; exact e)
          subst q1
          rfl
      have nT : Ts.Nodup := by
        have := hacc.2.1
        rw [eTs] at this
        exact nodup_unmap this
      have lT : Ts.length = (zip2T ds es).length := by
        have q := hacc.1
        rw [hmin, ← Array.length_toList, eTs, List.length_map] at q
        exact q
      have lps : ps.length = (zip2T ds es).length := by
        rw [zip2T_len, List.length_zip, l1.len, l2.len]
      have tat : ∀ (j : Nat) (T : Addr), Ts[j]? = some T → ∃ x y u v, ps[j]? = some (x, y) ∧ RelV x u ∧ RelV y v ∧ IsTupOf2 h2 T u v ∧ T ≠ h'.objs.size ∧ h'.get? T = none := by
        intro j T e
        have ea : acc[j]? = some (Value.ref T) := by
          rw [← Array.getElem?_toList, eTs, List.getElem?_map, e]
          rfl
        obtain ⟨T', u, v, q1, q2, q3, q4, q5, q6, q7⟩ := hat j _ ea
        injection q1 with q1
        subst q1
        have u1 : its3[j]? = some u := by simpa using q2
        have v1 : its4[j]? = some v := by simpa using q3
        have hj1 : j < xs.length := by
          have := (List.getElem?_eq_some_iff.mp u1).1
          rw [← rv3.length] at this
          exact this
        have hj2 : j < ys.length := by
          have := (List.getElem?_eq_some_iff.mp v1).1
          rw [← rv4.length] at this
          exact this
        obtain ⟨u', w1, w2⟩ := rv3.get (List.getElem?_eq_getElem hj1)
        obtain ⟨v', w3, w4⟩ := rv4.get (List.getElem?_eq_getElem hj2)
        rw [u1] at w1
        rw [v1] at w3
        cases w1
        cases w3
        refine ⟨xs[j], ys[j], u, v, ?_, w2, w4, q4, q5, q7⟩
        show (xs.zip ys)[j]? = _
        rw [List.getElem?_zip_eq_some]
        exact ⟨List.getElem?_eq_getElem hj1, List.getElem?_eq_getElem hj2⟩
      have I3 : Inv X pins σ H1 { s1 with heap := h' } := I2
      have hnL : H1 h'.objs.size = none := I3.hok.fresh (Nat.le_refl _)
      have hnT : ∀ (j : Nat) (T : Addr), Ts[j]? = some T → H1 T = none := fun j T e => by
        obtain ⟨_, _, _, _, _, _, _, _, _, q⟩ := tat j T e
        exact I3.hok.gone q
      have sm : Same H1 (pairsH H1 h2 h'.objs.size Ts ps) := fun b o e => by
        unfold pairsH
        rw [e]
      have atT : ∀ (j : Nat) (T : Addr) (p : V × V), Ts[j]? = some T → ps[j]? = some p → pairsH H1 h2 h'.objs.size Ts ps T = some (.frz ((h2.get? T).getD { cls := .none, data := .seq #[] }) (.tup [p.1, p.2])) := fun j T p e1 e2 => by
        unfold pairsH
        rw [hnT j T e1]
        dsimp only
        rw [find_at nT e1 e2]
      have noL : (Ts.zip ps).find? (fun q => decide (q.1 = h'.objs.size)) = none := by
        rw [List.find?_eq_none]
        rintro ⟨T, p⟩ hm hd
        have hd : T = h'.objs.size := by simpa using hd
        obtain ⟨j, ej⟩ := List.mem_iff_getElem?.mp (List.of_mem_zip hm).1
        obtain ⟨_, _, _, _, _, _, _, _, q, _⟩ := tat j T ej
        exact q hd
      have atL : pairsH H1 h2 h'.objs.size Ts ps h'.objs.size = some (.lst (Ts.map V.ref)) := by
        unfold pairsH
        rw [hnL]
        dsimp only
        rw [noL]
        dsimp only
        rw [if_pos rfl]
      have kk : ∀ b o, s1.heap.get? b = some o → h2.get? b = some o := fun b o e => k2 b o (fun hm => by
        have hb := Heap.lt_size e
        simp only [List.mem_cons, List.not_mem_nil, or_false] at hm
        rcases hm with z | z | z | z <;> (rw [z] at hb; exact absurd hb (Nat.not_lt.mpr (by first | exact Nat.le_refl _ | exact Nat.le_add_right _ _)))) (hk b o e)
      have szL : s1.heap.get? h'.objs.size = none := by
        cases q : s1.heap.get? h'.objs.size with
        | none => rfl
        | some o => exact absurd (Heap.lt_size (hk _ _ q)) (Nat.lt_irrefl _)
      have I4 : Inv X pins σ (pairsH H1 h2 h'.objs.size Ts ps) { s1 with heap := h2, toks := tk } := by
        refine Inv.many I1 kk sm fun b o e n => ?_
        unfold pairsH at e
        rw [n] at e
        dsimp only at e
        cases q : (Ts.zip ps).find? (fun q => decide (q.1 = b)) with
        | some r =>
          obtain ⟨T, p⟩ := r
          have eb : T = b := by simpa using List.find?_some q
          subst eb
          rw [q] at e
          dsimp only at e
          cases e
          obtain ⟨j, hj⟩ := List.mem_iff_getElem?.mp (List.mem_of_find?_eq_some q)
          rw [List.getElem?_zip_eq_some] at hj
          obtain ⟨x, y, u, v, w1, w2, w3, w4, w5, w6⟩ := tat j T hj.1
          rw [hj.2] at w1
          cases w1
          refine ⟨?_, by rw [show h2.get? T = some _ from w4]; rfl, by show 2 ≤ sizeLine; decide, [u, v], .cons w2 (.cons w3 .nil), ⟨_, w4, rfl, _, rfl⟩⟩
          cases q2 : s1.heap.get? T with
          | none => rfl
          | some o =>
            rw [hk _ _ q2] at w6
            cases w6
        | none =>
          rw [q] at e
          dsimp only at e
          by_cases c : b = h'.objs.size
          · rw [if_pos c] at e
            cases e
            subst c
            refine ⟨szL, ?_, acc.toList, c', ?_, by rw [Array.toArray_toList]; exact hL⟩
            · rw [List.length_map, lT]
              exact lim_sz hl
            · rw [eTs]
              exact vals_refs Ts
          · rw [if_neg c] at e
            cases e
      refine ⟨.ref h'.objs.size, _, I4, rfl, q _ _ sm (.lst (xs := Ts.map V.ref) (SqL.of (by rw [grow_new g1 hnL]; exact atL)) ?_)⟩
      refine drl_pairs l1 l2 Ts lT fun j T d e hT hd he => ?_
      obtain ⟨x, y, u, v, w1, _, _, w4, _⟩ := tat j T hT
      have w1' := w1
      rw [List.getElem?_zip_eq_some] at w1'
      obtain ⟨d', ed, rd⟩ := l1.get w1'.1
      obtain ⟨e', ee, re⟩ := l2.get w1'.2
      rw [hd] at ed
      rw [he] at ee
      cases ed
      cases ee
      refine .tup ⟨_, by rw [grow_new g1 (hnT j T hT)]; exact atT j T (x, y) hT w1, by rw [show h2.get? T = some _ from w4]; rfl⟩ (.cons (rd.mono grow_same) (.cons (re.mono grow_same) .nil))
end
end DL

/-! D12: dicts made; list.index. -/
namespace DL
open PySem PySem.Spec PyProof.Rows L2
def putKD (kvs : List (PyData × PyData)) (k v : PyData) : List (PyData × PyData) :=
  if (kvs.any fun p => PyData.eqv p.1 k) = true then kvs.map (fun p => if PyData.eqv p.1 k = true then (p.1, v) else p) else kvs ++ [(k, v)]
section
variable {K : PySem.W.Frag} {G : Hp}
theorem drk_any {k : Key} : ∀ {kv : List (Key × V)} {kvs : List (PyData × PyData)}, DrK K G kv kvs → (kv.any fun p => decide (p.1 = k)) = kvs.any fun p => PyData.eqv p.1 (keyD k)
  | _, _, .nil => rfl
  | _, _, .cons (k := k') h t => by
    rw [List.any_cons, List.any_cons, drk_any t]
    dsimp only
    rw [eqv_key]
theorem drk_map {k : Key} {v : V} {d : PyData} (r : Dr K G v d) : ∀ {kv : List (Key × V)} {kvs : List (PyData × PyData)}, DrK K G kv kvs → DrK K G (kv.map fun p => if p.1 = k then (p.1, v) else p) (kvs.map fun p => if PyData.eqv p.1 (keyD k) = true then (p.1, d) else p)
  | _, _, .nil => .nil
  | _, _, .cons (k := k') h t => by
    rw [List.map_cons, List.map_cons]
    dsimp only
    rw [eqv_key]
    by_cases e : k' = k
    · rw [if_pos e, if_pos (decide_eq_true e)]
      exact .cons r (drk_map r t)
    · rw [if_neg e, if_neg (by rw [decide_eq_false e]; exact Bool.false_ne_true)]
      exact .cons h (drk_map r t)
theorem DrK.append : ∀ {kv kw : List (Key × V)} {kvs kws : List (PyData × PyData)}, DrK K G kv kvs → DrK K G kw kws → DrK K G (kv ++ kw) (kvs ++ kws)
  | _, _, _, _, .nil, s => s
  | _, _, _, _, .cons h t, s => .cons h (DrK.append t s)
theorem drk_put {k : Key} {v : V} {d : PyData} (r : Dr K G v d) {kv : List (Key × V)} {kvs : List (PyData × PyData)} (h : DrK K G kv kvs) : DrK K G (putK kv k v) (putKD kvs (keyD k) d) := by
  unfold putK putKD
  rw [drk_any h]
  split
  · exact drk_map r h
  · exact h.append (.cons r .nil)
def mergeD (acc ps : List (PyData × PyData)) : List (PyData × PyData) := ps.foldl (fun acc p => putKD acc p.1 p.2) acc
theorem drk_merge : ∀ {ps : List (Key × V)} {pd : List (PyData × PyData)} {kv : List (Key × V)} {kvs : List (PyData × PyData)}, DrK K G ps pd → DrK K G kv kvs → DrK K G (mergeK kv ps) (mergeD kvs pd)
  | _, _, _, _, .nil, h => h
  | _, _, _, _, @DrK.cons _ _ k v r d rs h1 t, h => drk_merge (ps := r) (pd := rs) t (drk_put (k := k) h1 h)
def pairsKV : List PyData → Option (List (PyData × PyData))
  | [] => some []
  | .tuple [k, v] :: r => match keyOf k, pairsKV r with
    | some _, some ps => some ((k, v) :: ps)
    | _, _ => none
  | _ :: _ => none
theorem pairs_get {H : Hp} (g : Same G H) : ∀ {ds : List PyData} {pd : List (PyData × PyData)} {xs : List V}, pairsKV ds = some pd → DrL K G xs ds → ∃ (ps : List Addr) (kv : List (Key × V)), xs = ps.map V.ref ∧ Paired (fun p q => SqT K H p [kV q.1, q.2]) ps kv ∧ DrK K G kv pd
  | [], pd, xs, h, r => by
    cases h
    cases r
    exact ⟨[], [], rfl, .nil, .nil⟩
  | d :: ds, pd, xs, h, r => by
    cases r with
    | cons r1 r2 =>
      cases r1 with
      | tup h1 h2 =>
        unfold pairsKV at h
        split at h
        · rename_i hh
          cases hh
        · rename_i k v r' hh
          cases hh
          split at h
          · rename_i kk ps' ek ep
            cases h
            obtain ⟨ps, kv, e1, e2, e3⟩ := pairs_get g ep r2
            obtain ⟨v1, v2, rfl, q1, q2⟩ := drl_two h2
            have ekk := keyOf_some ek
            subst ekk
            have ev := dr_key q1
            subst ev
            exact ⟨_ :: ps, (kk, v2) :: kv, by rw [e1]; rfl, .cons (h1.sqT g) e2, .cons q2 e3⟩
          · cases h
        · cases h
      | _ => unfold pairsKV at h; cases h
end
section
variable {X : Cx} {Z : Pm} {W : WX}
def dict1 : PyData → Option PyData
  | .list ds => if ds.length ≤ lim then (pairsKV ds).map fun ps => .dict (mergeD [] ps) else none
  | .tuple ds => if ds.length ≤ lim then (pairsKV ds).map fun ps => .dict (mergeD [] ps) else none
  | .dict kvs => some (.dict kvs)
  | _ => none
abbrev dictD : List PyData → Option PyData := arg1 dict1
/-- a dict just laid, locked for good -/
theorem lockNew {pins : List (Addr × Obj)} {σ : L2.St} {H : Hp} {s : Shared} {p : Addr} {kv : List (Key × V)} {Q : VK} {G : Hp} {kvs : List (PyData × PyData)} (g : Same G H) (hn : H p = none) (I : Inv X pins σ (upd H p (.dK kv)) s) (r : DrK X.K G kv kvs) (q : ∀ v H', Same H H' → Dr X.K (grow G H H') v (.dict kvs) → Q v H') : EP X pins σ Q (.ref p) s := by
  obtain ⟨od, I2⟩ := I.lock upd_same trivial
  rw [upd_upd] at I2
  exact ⟨.ref p, _, I2, rfl, q _ _ (same_new hn) (.dK (grow_at g hn) (r.mono grow_same))⟩
theorem cd_dict (hK : X.K = Z.K) (hc : X.calm = true) : CallR X (.type "dict") (rDc Z.K dictD) := by
  intro pins s σ H xs us Q I r ⟨G, ds, z, g, hd, hg, q⟩
  rw [← hK] at hd q
  cases ds with
  | nil => cases hg
  | cons d t =>
    cases t with
    | cons a b => cases hg
    | nil =>
      obtain ⟨x, rfl, hx⟩ := drl_one hd
      obtain ⟨u, rfl, rx⟩ := vals1 r
      have hg : dict1 d = some z := hg
      cases hx with
      | @lst a xs ds h1 h2 =>
        have hg : (if ds.length ≤ lim then (pairsKV ds).map fun ps => PyData.dict (mergeD [] ps) else none) = some z := hg
        split at hg
        · rename_i hl
          obtain ⟨pd, e1, rfl⟩ := Option.map_eq_some_iff.mp hg
          obtain ⟨ps, kv, rfl, e3, e4⟩ := pairs_get g e1 h2
          refine wpAny_mono (call_dictP hc pins s σ H [.ref a] [u] (fun v H' => ∃ p, v = .ref p ∧ H p = none ∧ H' = upd H p (.dK (mergeK [] kv))) I (.cons rx .nil) ⟨a, ps, kv, rfl, same_l g h1, e3, fun p hp => ⟨p, rfl, hp, rfl⟩⟩) (fun v' s' hh => ?_) fun _ _ z => z
          obtain ⟨v, H', I', rv, p, rfl, hn, rfl⟩ := hh
          cases rv
          exact lockNew g hn I' (drk_merge e4 .nil) q
        · cases hg
      | @tup a xs ds h1 h2 =>
        have hg : (if ds.length ≤ lim then (pairsKV ds).map fun ps => PyData.dict (mergeD [] ps) else none) = some z := hg
        split at hg
        · rename_i hl
          obtain ⟨pd, e1, rfl⟩ := Option.map_eq_some_iff.mp hg
          obtain ⟨ps, kv, rfl, e3, e4⟩ := pairs_get g e1 h2
          obtain ⟨o, ho, hod⟩ := h1
          obtain ⟨hget, hz, its, rv, o', ho', hcls, n, hdat⟩ := I.hok _ _ (g _ _ ho)
          rw [hget] at ho'
          cases ho'
          cases rx
          have ei := refs_at rv
          subst ei
          obtain ⟨prs, rel, hl2, hpr⟩ := pairs_of I e3
          have hlen : ps.length = prs.length := hl2.symm
          let Ts : Nat → Addr := fun j => ps.getD j 0
          let pv : List (Value × Value) := (List.range prs.length).map fun j => ((match (s.heap.get? (Ts j)) with | some o => (match o.data with | .seq a _ => a.getD 0 .none | _ => .none) | none => .none), (prs.getD j (.inl 0, .none)).2)
          have pvl : pv.length = prs.length := by simp [pv]
          have pat : ∀ j q, prs[j]? = some q → ∃ u, pv[j]? = some (u, q.2) ∧ IsTup s.heap (Ts j) #[u, q.2] ∧ keyIs q.1 u = true ∧ ps[j]? = some (Ts j) := fun j q e => by
            obtain ⟨b, u, w1, ⟨ob, w2, w3, nn, w4⟩, w5⟩ := hpr j q e
            have eT : Ts j = b := by simp [Ts, List.getD_eq_getElem?_getD, w1]
            have hj : j < prs.length := (List.getElem?_eq_some_iff.mp e).1
            refine ⟨u, ?_, ⟨ob, by rw [eT]; exact w2, w3, nn, w4⟩, w5, by rw [eT]; exact w1⟩
            have e2 : prs.getD j (.inl 0, .none) = q := by rw [List.getD_eq_getElem?_getD, e]; rfl
            simp only [pv, List.getElem?_map, List.getElem?_range hj, Option.map_some, eT, w2, w4, e2]
            rfl
          have ok : PlainSeq "tuple" s.heap a (ps.map Value.ref).toArray ∧ PairItems s.heap (ps.map Value.ref).toArray Ts pv := by
            refine ⟨⟨o, n, hget, hcls, hod, hdat⟩, by simp [pvl, hlen], fun j k v e => ?_⟩
            have hj : j < prs.length := by
              have := (List.getElem?_eq_some_iff.mp e).1
              rwa [pvl] at this
            obtain ⟨u, w1, w2, w3, w4⟩ := pat j prs[j] (List.getElem?_eq_getElem hj)
            rw [e] at w1
            cases w1
            exact ⟨by simp [w4], .inl w2⟩
          refine PySem.call_dict_pairs (knd := mixKind X.prog X.w) (kvs := prs) (PairArg.tuple a _ Ts pv) (I.ok.hd hc) ok ⟨by rw [pvl], fun j k v e => ?_⟩ (by rw [pvl, ← hlen]; rw [List.length_map] at hz; exact hz) fun h' tk hd' k => ?_
          · have hj : j < prs.length := by
              have := (List.getElem?_eq_some_iff.mp (show pv[j]? = some (k, v) from e)).1
              rwa [pvl] at this
            obtain ⟨u, w1, w2, w3, w4⟩ := pat j prs[j] (List.getElem?_eq_getElem hj)
            rw [show pv[j]? = some (k, v) from e] at w1
            cases w1
            exact ⟨prs[j].1, List.getElem?_eq_getElem hj, w3⟩
          · have hm : (s.heap.objs.size == sysModules) = false := beq_eq_false_iff_ne.mpr (Nat.ne_of_gt I.big)
            have hln : (mergeK [] kv).length ≤ sizeLine := by
              refine Nat.le_trans (length_mergeK kv []) ?_
              rw [List.length_nil, Nat.zero_add, rel.length, ← hlen]
              rw [List.length_map] at hz
              exact hz
            have hn : H s.heap.objs.size = none := I.hok.fresh (Nat.le_refl _)
            have I2 : Inv X pins σ (upd H s.heap.objs.size (.dK (mergeK [] kv))) { s with heap := h', toks := tk } := I.laid (t' := tk) (fun b o e => k b o (by simp) e) (Nat.le_refl _) (show ObjOk X.prog X.w _ _ _ (.dK (mergeK [] kv)) from ⟨hln, hm, merged [] prs, KV.merge rel .nil, hd'⟩)
            exact lockNew g hn I2 (drk_merge e4 .nil) q
        · cases hg
      | @dK a o kv kvs h1 h2 =>
        cases hg
        refine wpAny_mono (call_dictD pins s σ H [.ref a] [u] (fun v H' => ∃ p, v = .ref p ∧ H p = none ∧ H' = upd H p (.dK kv)) I (.cons rx .nil) ⟨a, kv, rfl, .inr ⟨_, g _ _ h1⟩, fun p hp => ⟨p, rfl, hp, rfl⟩⟩) (fun v' s' hh => ?_) fun _ _ z => z
        obtain ⟨v, H', I', rv, p, rfl, hn, rfl⟩ := hh
        cases rv
        exact lockNew g hn I' h2 q
      | _ => cases hg
/-! ### values -/
def valsD : PyData → Option (List PyData)
  | .dict kvs => some (kvs.map (·.2))
  | _ => none
theorem drk_val {K : PySem.W.Frag} {G : Hp} : ∀ {kv : List (Key × V)} {kvs : List (PyData × PyData)}, DrK K G kv kvs → DrL K G (kv.map (·.2)) (kvs.map (·.2))
  | _, _, .nil => .nil
  | _, _, .cons a b => .cons a (drk_val b)
theorem di_vals {tg e : Expr} {f : Env → R PyData} {apos cpos : Pos} (hK : X.K = Z.K) (h : DE X Z W e f) (hbase : attributeBase e "values" X.env (eval e X.env) = eval e X.env := by rfl) (hline : (apos.endLine == cpos.line) = true := by rfl) : DI X Z W tg (.Call (.Attribute e "values" apos) [] [] cpos) (iOf valsD f) := by
  refine PI_imp (pi_values h hbase hline) fun σ H Q ⟨ρ, G, O, R, P⟩ => ?_
  refine t_bind R P fun d ρ1 v G1 O1 H1 e1 R1 S1 D1 P1 => ?_
  cases D1 with
  | @dK a o kv kvs h1 h2 =>
    refine ⟨_, _, _, rfl, R1.gh _ _ h1, P1 _ _ _ _ R1 Step.refl fun H2 s => ?_⟩
    have hl := h2.len
    have hv := drk_val h2
    refine ⟨fun i hi => ⟨s _ _ h1, ?_⟩, fun i x H' hi y => ?_, s _ _ h1, ?_⟩
    · rw [List.length_map] at hi
      omega
    · obtain ⟨rfl, k, e⟩ := y
      obtain ⟨d, e2, r⟩ := hv.get (i := i) (v := x) (by rw [List.getElem?_map, e]; rfl)
      exact ⟨Same.refl _, d, e2, r.mono grow_same⟩
    · rw [List.length_map]
      omega
  | _ => exact P1.elim
/-- list(e.values()) -/
theorem de_listVals {e : Expr} {f : Env → R PyData} {p apos cpos pos : Pos} (hK : X.K = Z.K) (hc : X.calm = true) (hg : Gl X "list") (hm : X.mg "list" = none) (h : DE X Z W e f) (hbase : attributeBase e "values" X.env (eval e X.env) = eval e X.env := by rfl) (hline : (apos.endLine == cpos.line) = true := by rfl)
    (na : starEach [.Call (.Attribute e "values" apos) [] [] cpos] X.env = (false, eval (.Call (.Attribute e "values" apos) [] [] cpos) X.env) :: starEach [] X.env := by rfl) :
    DE X Z W (.Call (.Name "list" p) [.Call (.Attribute e "values" apos) [] [] cpos] [] pos) (eFl (iOf valsD f)) := by
  refine ⟨fun pins s σ H Q I q => ?_⟩
  obtain ⟨ρ, G, O, R, P⟩ := q
  have step : TD Z W f σ H (fun x H1 => ∃ d o kvs G1 kd, x = .ref d ∧ H1 d = some (.frz o (.dK kvs)) ∧ Same G1 H1 ∧ DrK Z.K G1 kvs kd ∧ ∀ v H', Same H1 H' → Dr Z.K (grow G1 H1 H') v (.list (kd.map (·.2))) → Q v H') := by
    refine ⟨ρ, G, O, R, ?_⟩
    unfold eFl iOf at P
    cases ef : f ρ with
    | bad => rw [ef] at P; exact P.elim
    | er x ρ1 => rw [ef] at P; exact P
    | ok dd ρ1 =>
      rw [ef] at P
      intro x G1 O1 H1 R1 S1 D1
      cases D1 with
      | @dK a o kv kvs h1 h2 =>
        have P1 : Post Z W (fun G _ _ v d => Dr Z.K G v d) σ G O H Q (.ok (.list (kvs.map (·.2))) ρ1) := P
        exact ⟨a, o, kv, G1, kvs, rfl, R1.gh _ _ h1, R1.gh, h2, post_pure R1 (Post.step S1 P1)⟩
      | _ => exact P.elim
  refine Call_ (ld_blt I hg hm boot_list (PyProof.Rows.callWith_type1 (PyProof.Rows.args_cons ?_ na) na rfl))
  refine wpAny_Call_method (T := "dict") (id := "dict.values") hbase rfl hline F.plainAttrs_dict F.slot_dict_values F.type_dict_values (thn (h.run pins s σ H _ I step) fun u s1 ⟨x, H1, I1, rx, d, o, kvs, G1, kd, ex, hd, g1, hk, q⟩ => ?_)
  subst ex
  obtain rfl : u = Value.ref d := rx
  obtain ⟨hs, hgd, hx, es, ep, vs, hdt, hsz, kv, hm⟩ := I1.frzK hd
  have hl : kvs.length = vs.length := Paired.length kv
  refine ⟨hm.dictOf.typeIs, hm.dictOf.mapOf.noDict, ?_⟩
  have I2 : Inv X pins σ H1 { s1 with heap := s1.heap.push { cls := .type "dict_values", data := .fields #[.ref d] } } := I1.kept (t' := s1.toks) fun b ob q => Heap.get?_push_of_some _ q
  refine method_meetsIn F.slot_dict_values F.entry_dict_values rfl (PySem.evalArgs_none ⟨rfl, hm.dictOf.typeIs, F.args_dict_values_1 _, _, meets_dict_values (mixKind X.prog X.w) d hs, ⟨vs, hm.dictOf⟩, PyProof.Rows.args_nil ?_⟩)
  have hz := (dk_rd I1.hok (.inr ⟨_, hd⟩)).1
  refine PySem.W.kdl_call (PySem.W.kdl_values (r := s1.heap.objs.size) (d := d) (knd := mixKind X.prog X.w) (kvs := vs) (ep := ep)) (I2.ok.hd hc) ⟨⟨_, Heap.get?_push_size _ rfl, rfl, rfl⟩, hm.push _⟩ (by rw [← hl]; exact hz) fun h' tk acc c' hk' hD hacc => ?_
  have hv : Vals (kvs.map (·.2)) acc.toList := by
    have la : acc.toList.length = vs.length := by
      rw [Array.length_toList]
      exact hacc.1
    refine vals_of_at (by rw [List.length_map, la, hl]) fun j x u e1 e2 => ?_
    rw [List.getElem?_map] at e1
    cases e3 : kvs[j]? with
    | none => rw [e3] at e1; cases e1
    | some kx =>
      rw [e3] at e1
      cases e1
      obtain ⟨w, w1, w2⟩ := kv_get kv (k := kx.1) (v := kx.2) e3
      obtain ⟨k', w3⟩ := hacc.2 j u (by rw [← Array.getElem?_toList]; exact e2)
      rw [w1] at w3
      cases w3
      exact w2
  have hn : H1 (s1.heap.push { cls := .type "dict_values", data := .fields #[.ref d] }).objs.size = none := I2.hok.fresh (Nat.le_refl _)
  refine ⟨.ref _, _, I2.laid (t' := tk) hk' (Nat.le_refl _) (show ObjOk X.prog X.w _ _ _ (.lst (kvs.map (·.2))) from ⟨by rw [List.length_map]; exact hz, acc.toList, c', hv, by rw [Array.toArray_toList]; exact hD⟩), rfl, q _ _ (same_new hn) (.lst (SqL.of (grow_at g1 hn)) ((drk_val hk).mono grow_same))⟩
/-! ### x.index(y) -/
def indexD (xs : List PyData) (y : PyData) : Option Nat := if shp (.list xs) = true ∧ shp y = true then xs.findIdx? (fun z => PyData.eqv z y) else none
def eIndex (fa fe : Env → R PyData) : Env → R PyData := fun ρ => (fa ρ).bind fun d ρ1 => match d with
  | .list ds => (fe ρ1).bind fun y ρ2 => match indexD ds y with
    | some j => .ok (.int (j : Nat)) ρ2
    | none => .bad
  | _ => .bad
theorem de_index {a e : Expr} {fa fe : Env → R PyData} {apos cpos : Pos} (hK : X.K = Z.K) (hu : X.A.units + 70 < cLine) (ha : DE X Z W a fa) (he : DE X Z W e fe)
    (hbase : attributeBase a "index" X.env (eval a X.env) = eval a X.env := by rfl)
    (hfew : ((backTo cpos (starEach [e] X.env)).all (fun x => !x.1) && (backToKw cpos (keywordEach [] X.env)).all (fun x => x.1.isSome)
      && decide (([e] : List Expr).length + ([] : List Keyword).length + (if ([] : List Keyword).isEmpty then 0 else 1) < 30)) = true := by rfl)
    (hline : (apos.endLine == cpos.line) = true := by rfl) (hs : starEach [e] X.env = (false, eval e X.env) :: starEach [] X.env := by rfl) (hplain : (backTo cpos (starEach [] X.env)).any (·.1) = false := by rfl) :
    DE X Z W (.Call (.Attribute a "index" apos) [e] [] cpos) (eIndex fa fe) := by
  refine PE_imp (pe_bm PySem.F.plainAttrs_list PySem.F.slot_list_index PySem.F.type_list_index (mt_indexD (by omega)) ha (pa_cons he pa_nil hs) hbase hfew hline hs hplain) fun σ H Q ⟨ρ, G, O, R, P⟩ => ?_
  refine t_bind R P fun d ρ1 v G1 O1 H1 e1 R1 S1 D1 P1 => ?_
  cases D1 with
  | @lst l xs ds h1 h2 =>
    refine .inl ⟨rfl, _, by rw [hK]; exact same_l R1.gh h1⟩ |> fun ty => ⟨ty, ?_⟩
    refine t_bind R1 P1 fun y ρ2 u G2 O2 H2 e2 R2 S2 D2 P2 => ?_
    cases hi : indexD ds y with
    | none =>
      rw [hi] at P2
      exact P2.elim
    | some j =>
      rw [hi] at P2
      obtain ⟨⟨s1, s2⟩, hj⟩ : (shp (.list ds) = true ∧ shp y = true) ∧ ds.findIdx? (fun z => PyData.eqv z y) = some j := by
        unfold indexD at hi
        split at hi
        · rename_i c
          exact ⟨c, hi⟩
        · cases hi
      rw [List.findIdx?_eq_some_iff_getElem] at hj
      obtain ⟨hlt, hh, hno⟩ := hj
      have c1 := SeqAt.canLay_of_shaped s1
      have c2 := SeqAt.canLay_of_shaped s2
      have dl : Dr Z.K G2 (.ref l) (.list ds) := (Dr.lst h1 h2).mono S2.gg
      refine ⟨l, u, y, ds, j, ds[j], rfl, rfl, ?_, ?_, s1, s2, List.getElem?_eq_getElem hlt, hh, fun m z' hm ez => ?_, P2 _ _ _ _ R2 Step.refl (.int _)⟩
      · rw [hK]
        exact (dl.mono R2.gh).dp c1
      · rw [hK]
        exact (D2.mono R2.gh).dp c2
      · have hml : m < ds.length := by omega
        rw [List.getElem?_eq_getElem hml] at ez
        cases ez
        simpa using hno m hm
  | _ => exact P1.elim
end
end DL

/-! D13: dict comprehensions, dicts of own lists. -/
namespace DL
open PySem PySem.Spec PyProof.Rows L2
section
variable {X : Cx} {Z : Pm} {W : WX}
/-- what is given is locked for good -/
def tLockV (t : TE) : TE := fun σ H Q => t σ H fun v H' => ∃ a u, v = .ref a ∧ H' a = some u ∧ Mut (some u) ∧ ∀ od, Q v (upd H' a (.frz od u))
theorem pe_lockV {e : Expr} {t : TE} (h : PE X e t) : PE X e (tLockV t) := by
  refine ⟨fun pins s σ H Q I q => thn (h.run pins s σ H _ I q) fun u s1 ⟨v, H', I1, r, a, u', e1, e2, e3, e4⟩ => ?_⟩
  obtain ⟨od, I2⟩ := I1.lock e2 e3
  exact ⟨_, _, I2, r, e4 od⟩
def dcGo (g : TgF) (tt : Env → R Bool) (tk tv : Env → R PyData) (vs : List Nat) : List PyData → List (PyData × PyData) → Env → R (List (PyData × PyData))
  | [], acc, ρ => .ok acc ρ
  | d :: r, acc, ρ => match g d (wipeE ρ vs) with
    | none => .bad
    | some ρ2 => match tt ρ2 with
      | .ok b ρ3 => if b = true then match tk ρ3 with
          | .ok k ρ4 => match tv ρ4 with
            | .ok v ρ5 => if (keyOf k).isSome = true then dcGo g tt tk tv vs r (putKD acc k v) (wipeE ρ5 vs) else .bad
            | _ => .bad
          | _ => .bad
        else dcGo g tt tk tv vs r acc (wipeE ρ3 vs)
      | _ => .bad
def eDc (it : Env → R (List PyData)) (g : TgF) (tt : Env → R Bool) (tk tv : Env → R PyData) (vs : List Nat) : Env → R (List (PyData × PyData)) := fun ρ => (it ρ).bind fun ds ρ1 =>
  if ds.length < lim then match dcGo g tt tk tv vs ds [] (wipeE ρ1 vs) with
    | .ok xs ρ2 => .ok xs (backE ρ1 ρ2 vs)
    | _ => .bad
  else .bad
theorem putKD_len (kvs : List (PyData × PyData)) (k v : PyData) : (putKD kvs k v).length ≤ kvs.length + 1 := by
  unfold putKD
  split
  · rw [List.length_map]
    omega
  · simp
/-- a new dict, held by nobody yet -/
def NewD (Z : Pm) : Hp → Own → Hp → V → List (PyData × PyData) → Prop := fun G O H v ds => ∃ a kv, v = .ref a ∧ O a = some lim ∧ H a = some (.dK kv) ∧ DrK Z.K G kv ds
theorem dc_turns {wi : TI} {g : TgF} {tt : Env → R Bool} {tk tv : Env → R PyData} {vs gvs : List Nat} {it : Env → R (List PyData)} (hv : ∀ i, i ∈ gvs → i ∈ vs) {σ : L2.St} {H : Hp} {Q : VK}
    (hw : ∀ R', T_ Z W (fun G _ _ (J : It) ds => ItD Z.K J G ds) it σ H R' → wi σ H R')
    (h : T_ Z W (NewD Z) (eDc it g tt tk tv vs) σ H Q) : tDc wi (TDg Z g gvs) (TDb Z WN tt) (TD Z WN tk) (TD Z WN tv) vs σ H Q := by
  refine hw _ ?_
  obtain ⟨ρ, G, O, R, P⟩ := h
  refine t_bind R P fun ds ρ1 J G1 O1 H1 e1 R1 S1 D1 P1 => ?_
  intro D hD
  by_cases hl : ds.length < lim
  case neg =>
    rw [if_neg hl] at P1
    exact P1.elim
  rw [if_pos hl] at P1
  cases e2 : dcGo g tt tk tv vs ds [] (wipeE ρ1 vs) with
  | bad =>
    rw [e2] at P1
    exact P1.elim
  | er x ρ2 =>
    rw [e2] at P1
    exact P1.elim
  | ok xs ρ2 =>
    rw [e2] at P1
    let Inv_ : Nat → Hp → Prop := fun i H2 => ∃ ρi Gi Oi acc kvD, Rel Z ρi (L2.wipe σ vs) Gi Oi H2 ∧ Step G1 O1 H1 Gi Oi H2 ∧ H2 D = some (.dK kvD) ∧ Gi D = none ∧ Oi D = none ∧ DrK Z.K Gi kvD acc ∧ acc.length ≤ i ∧
      dcGo g tt tk tv vs (ds.drop i) acc ρi = .ok xs ρ2
    refine ⟨fun i m H2 => m = ds.length - i ∧ i ≤ ds.length ∧ Inv_ i H2, ⟨ds.length, rfl, Nat.zero_le _, ?_⟩, ?_⟩
    · have gd : G1 D = none := by
        cases q : G1 D with
        | none => rfl
        | some o =>
          rw [R1.gh _ _ q] at hD
          cases hD
      have od : O1 D = none := by
        cases q : O1 D with
        | none => rfl
        | some o => exact absurd hD (R1.oh D (by rw [q]; exact fun z => nomatch z))
      have sd : Same H1 (upd H1 D (.dK [])) := same_new hD
      refine ⟨wipeE ρ1 vs, G1, O1, [], [], ?_, ?_, upd_same, gd, od, .nil, Nat.zero_le _, by rw [List.drop_zero]; exact e2⟩
      · have R2 := R1.wipe vs
        refine ⟨R2.len, R2.gh.trans sd, R2.go, fun a ha => ?_, fun i c hc => (R2.cell i c hc).keep (Same.refl _) (fun _ q => q) fun a o _ q => sd _ _ q⟩
        have := R2.oh a ha
        cases q : H1 a with
        | none => exact absurd q this
        | some o =>
          rw [sd _ _ q]
          exact fun z => nomatch z
      · exact ⟨Same.refl _, fun b hb => .inl hb, fun b hb => .inl hb, fun b o hb _ => sd _ _ hb⟩
    · rintro i m H2 ⟨rfl, hi, ρi, Gi, Oi, acc, kvD, Ri, Si, hDi, gDi, oDi, rD, al, eg⟩
      obtain ⟨j1, j2, j3⟩ := (D1.mono Si.gg) H2 Ri.gh
      by_cases hlt : i < ds.length
      case neg =>
        have ei : i = ds.length := by omega
        subst ei
        rw [List.drop_length] at eg
        cases eg
        refine .inl ⟨j3, ?_⟩
        have R3 : Rel Z (backE ρ1 ρ2 vs) σ Gi (fun b => if b = D then some lim else Oi b) H2 := by
          have RR := R1.restore Si.gg Ri
          refine ⟨RR.len, RR.gh, fun a ha => ?_, fun a ha => ?_, fun j c hc => (RR.cell j c hc).keep (Same.refl _) (fun b hb => ?_) fun _ _ _ q => q⟩
          · by_cases z : a = D
            · rw [z]; exact gDi
            · try dsimp only at ha
              rw [if_neg z] at ha
              exact RR.go a ha
          · by_cases z : a = D
            · rw [z, hDi]
              exact fun q => nomatch q
            · try dsimp only at ha
              rw [if_neg z] at ha
              exact RR.oh a ha
          · have : b ≠ D := fun z => by
              rw [z, oDi] at hb
              cases hb
            try dsimp only
            rw [if_neg this]
            exact hb
        refine P1 (.ref D) Gi _ H2 R3 ⟨Si.gg, Si.gn, fun b hb => ?_, Si.fr⟩ ⟨D, kvD, rfl, if_pos rfl, hDi, rD⟩
        by_cases z : b = D
        · exact .inr (by rw [z]; exact hD)
        · try dsimp only at hb
          rw [if_neg z] at hb
          exact Si.oo b hb
      refine .inr ⟨j1 i hlt, Inv_ (i + 1), fun H' n' => ⟨ds.length - (i + 1), by omega, rfl, hlt, n'⟩, fun x H' hy => ?_⟩
      obtain ⟨s', d, ed, dr⟩ := j2 i x H' hlt hy
      have ed2 : ds.drop i = d :: ds.drop (i + 1) := by
        rw [List.drop_eq_getElem_cons hlt]
        rw [List.getElem?_eq_getElem hlt] at ed
        cases ed
        rfl
      rw [ed2] at eg
      unfold dcGo at eg
      have Rg := Ri.grow s'
      have Sg := Ri.stepGrow s'
      have gDg : DL.grow Gi H2 H' D = none := grow_none gDi hDi
      have hDg : H' D = some (.dK kvD) := s' _ _ hDi
      cases ge : g d (wipeE ρi vs) with
      | none =>
        rw [ge] at eg
        cases eg
      | some ρ3 =>
        rw [ge] at eg
        dsimp only at eg
        have Rw := Rg.wipe vs
        rw [wipe_wipe] at Rw
        refine ⟨_, _, _, _, ρ3, Rw, dr, ge, fun σ2 sq R3 => ⟨(sq.sub hv).wipe.trans (wipe_wipe σ vs), ?_⟩⟩
        have wq : L2.wipe σ2 vs = L2.wipe σ vs := (sq.sub hv).wipe.trans (wipe_wipe σ vs)
        refine ⟨ρ3, _, _, R3, ?_⟩
        cases te1 : tt ρ3 with
        | bad =>
          rw [te1] at eg
          cases eg
        | er y ρ4 =>
          rw [te1] at eg
          cases eg
        | ok b ρ4 =>
          rw [te1] at eg
          dsimp only at eg
          intro b' G4 O4 H4 R4 S4 hb
          subst hb
          have kD : ∀ {G5 O5 H5}, Step (DL.grow Gi H2 H') Oi H' G5 O5 H5 → G5 D = none ∧ O5 D = none ∧ H5 D = some (.dK kvD) := by
            intro G5 O5 H5 S5
            refine ⟨?_, ?_, S5.fr _ _ hDg oDi⟩
            · cases q : G5 D with
              | none => rfl
              | some o =>
                rcases S5.gn D (by rw [q]; exact fun z => nomatch z) with z | z | z
                · exact absurd gDg z
                · exact absurd oDi z
                · rw [hDg] at z
                  cases z
            · cases q : O5 D with
              | none => rfl
              | some o =>
                rcases S5.oo D (by rw [q]; exact fun z => nomatch z) with z | z
                · exact absurd oDi z
                · rw [hDg] at z
                  cases z
          cases b' with
          | false =>
            rw [if_neg Bool.false_ne_true] at eg ⊢
            obtain ⟨k1, k2, k3⟩ := kD S4
            have := R4.wipe vs
            rw [wq] at this
            have rr : DrK Z.K G4 kvD acc := by
              have : Same Gi G4 := Sg.gg.trans S4.gg
              exact DrK.mono this rD
            exact ⟨wipeE ρ4 vs, G4, O4, acc, kvD, this, Si.trans (Sg.trans S4), k3, k1, k2, rr, Nat.le_succ_of_le al, eg⟩
          | true =>
            rw [if_pos rfl] at eg ⊢
            refine ⟨ρ4, G4, O4, R4, ?_⟩
            cases te2 : tk ρ4 with
            | bad =>
              rw [te2] at eg
              cases eg
            | er y ρ5 =>
              rw [te2] at eg
              cases eg
            | ok kd ρ5 =>
              rw [te2] at eg
              dsimp only at eg
              intro y G5 O5 H5 R5 S5 hk
              refine ⟨ρ5, G5, O5, R5, ?_⟩
              cases te3 : tv ρ5 with
              | bad =>
                rw [te3] at eg
                cases eg
              | er y ρ6 =>
                rw [te3] at eg
                cases eg
              | ok z ρ6 =>
                rw [te3] at eg
                dsimp only at eg
                intro w G6 O6 H6 R6 S6 hz
                split at eg
                case isFalse => cases eg
                rename_i hks
                obtain ⟨k, hks⟩ := Option.isSome_iff_exists.mp hks
                have ekd := keyOf_some hks
                subst ekd
                have ey := dr_key hk
                obtain ⟨k1, k2, k3⟩ := kD (S4.trans (S5.trans S6))
                have gg : Same Gi G6 := Sg.gg.trans (S4.gg.trans (S5.gg.trans S6.gg))
                refine ⟨kvD, k, ey, k3, ?_, wipeE ρ6 vs, G6, O6, putKD acc (keyD k) z, putK kvD k w, ?_, ?_, upd_same, k1, k2, drk_put hz (DrK.mono gg rD), ?_, eg⟩
                · rw [rD.len]
                  have : lim ≤ sizeLine := lim_sz (Nat.le_refl _)
                  omega
                · have Rw5 := R6.wipe vs
                  rw [wq] at Rw5
                  have hne : ∀ b o, H6 b = some o → b ≠ D → (upd H6 D (.dK (putK kvD k w))) b = some o := fun b o e q => by
                    rw [upd_ne q]
                    exact e
                  refine ⟨Rw5.len, fun b o e => hne b o (Rw5.gh b o e) (fun q => ?_), Rw5.go, fun b hb => ?_, fun j c hc => (Rw5.cell j c hc).keep (Same.refl _) (fun _ q => q) fun b o hb e => hne b o e (fun q => ?_)⟩
                  · rw [q, k1] at e
                    cases e
                  · have nb : b ≠ D := fun q => by
                      rw [q] at hb
                      exact hb k2
                    rw [upd_ne nb]
                    exact Rw5.oh b hb
                  · rw [q, k2] at hb
                    cases hb
                · have S7 := Si.trans (Sg.trans (S4.trans (S5.trans S6)))
                  refine ⟨S7.gg, S7.gn, S7.oo, fun b o e n => ?_⟩
                  have nb : b ≠ D := fun q => by
                    rw [q, hD] at e
                    cases e
                  rw [upd_ne nb]
                  exact S7.fr b o e n
                · exact Nat.le_trans (putKD_len _ _ _) (by omega)
abbrev DFd (X : Cx) (Z : Pm) (W : WX) (e : Expr) (f : Env → R (List (PyData × PyData))) : Prop := PE X e (T_ Z W (NewD Z) f)
def eFd (f : Env → R (List (PyData × PyData))) : Env → R PyData := fun ρ => (f ρ).bind fun ds ρ1 => .ok (.dict ds) ρ1
theorem de_fd {e : Expr} {f : Env → R (List (PyData × PyData))} (hl : X.N.length ≤ lim) (h : DFd X Z W e f) : DE X Z W e (eFd f) := by
  refine ⟨fun pins s σ H Q I q => (pe_lockV h).run pins s σ H Q I ?_⟩
  obtain ⟨ρ, G, O, R, P⟩ := q
  refine t_bind R P fun ds ρ1 v G1 O1 H1 e1 R1 S1 D1 P1 => ?_
  obtain ⟨a, kv, rfl, ho, hv, r⟩ := D1
  refine ⟨a, _, rfl, hv, trivial, fun od => ?_⟩
  have na : O1 a ≠ none := by rw [ho]; exact fun z => nomatch z
  have ga : G1 a = none := R1.go a na
  have gg : Same G1 (upd G1 a (.frz od (.dK kv))) := same_new ga
  have hlen : ρ1.length ≤ lim := by rw [R1.len, I.len]; exact hl
  refine P1 (.ref a) (upd G1 a (.frz od (.dK kv))) (O1.del a) _ ⟨R1.len, fun b x e => ?_, fun b e => ?_, fun b e => ?_, fun i c e => ?_⟩ ⟨gg, fun b e => ?_, fun b e => .inl (Own.del_some e).2, fun b x e n => ?_⟩ (.dK upd_same (DrK.mono gg r))
  · by_cases z : b = a
    · subst z
      rw [upd_same] at e ⊢
      exact e
    · rw [upd_ne z] at e ⊢
      exact R1.gh _ _ e
  · obtain ⟨z, e⟩ := Own.del_some e
    rw [upd_ne z]
    exact R1.go b e
  · obtain ⟨z, e⟩ := Own.del_some e
    rw [upd_ne z]
    exact R1.oh b e
  · have hi : i < lim := Nat.lt_of_lt_of_le (List.getElem?_eq_some_iff.mp e).1 hlen
    have nb : ∀ b, O1 b = some i → b ≠ a := fun b hb z => by
      rw [z, ho] at hb
      have := Option.some.inj hb
      omega
    exact (R1.cell i c e).keep gg (fun b hb => by rw [Own.del_ne (nb b hb)]; exact hb) fun b x hb q => by
      rw [upd_ne (nb b hb)]
      exact q
  · by_cases z : b = a
    · exact .inr (.inl (by rw [z]; exact na))
    · rw [upd_ne z] at e
      exact .inl e
  · have : b ≠ a := fun z => by rw [z] at n; exact na n
    rw [upd_ne this]
    exact e
theorem dfd_dc {kx vx tg iter : Expr} {ifs : List Expr} {scope : Scope} {own : List (Str × Nat)} {pos : Pos} {it : Env → R (List PyData)} {g : TgF} {gvs : List Nat} {tt : Env → R Bool} {tk tv : Env → R PyData} (hc : X.calm = true) (hN : X.N.Nodup) (hi : DI X Z W tg iter it) (ok : BlkOk X.N X.env.scope scope own) (hv : ∀ i, i ∈ gvs → i ∈ own.map (·.2))
    (hg : ∀ s H C cl fp, DG (blkX X scope s H C cl fp) Z tg g gvs) (ht : ∀ s H C cl fp, DTs (blkX X scope s H C cl fp) Z WN ifs tt) (hk : ∀ s H C cl fp, DE (blkX X scope s H C cl fp) Z WN kx tk) (he : ∀ s H C cl fp, DE (blkX X scope s H C cl fp) Z WN vx tv) (hs : ∀ x, foldedSetIterable iter X.env x = pure x := by intro _; rfl) :
    DFd X Z W (.DictComp kx vx [⟨tg, iter, ifs, 0⟩] scope pos) (eDc it g tt tk tv (own.map (·.2))) :=
  PE_imp (pe_dc hc hN hi ok hg ht hk he hs) fun σ H Q h => dc_turns hv (fun _ q => q) h
end
end DL

/-! D14: dicts of own lists. -/
namespace DL
open PySem PySem.Spec PyProof.Rows L2
section
variable {X : Cx} {Z : Pm} {W : WX}
def lookDl (kvs : List (PyData × List PyData)) (k : PyData) : Option (List PyData) := (kvs.find? fun p => PyData.eqv p.1 k).map (·.2)
def dlGo (g : TgF) (tk : Env → R PyData) (vs : List Nat) : List PyData → List (PyData × List PyData) → Env → R (List (PyData × List PyData))
  | [], acc, ρ => .ok acc ρ
  | d :: r, acc, ρ => match g d (wipeE ρ vs) with
    | none => .bad
    | some ρ3 => match tk ρ3 with
        | .ok k ρ4 => if (keyOf k).isSome = true ∧ (acc.any fun p => PyData.eqv p.1 k) = false then dlGo g tk vs r (acc ++ [(k, [])]) (wipeE ρ4 vs) else .bad
        | _ => .bad
def eDl (it : Env → R (List PyData)) (g : TgF) (tk : Env → R PyData) (vs : List Nat) : Env → R (List (PyData × List PyData)) := fun ρ => (it ρ).bind fun ds ρ1 =>
  if ds.length < lim then match dlGo g tk vs ds [] (wipeE ρ1 vs) with
    | .ok xs ρ2 => .ok xs (backE ρ1 ρ2 vs)
    | _ => .bad
  else .bad
/-- rows of lists that nobody holds yet -/
def RowsU (H1 : Hp) (O1 : Own) (G : Hp) (O : Own) (H : Hp) : List (Key × V) → List (PyData × List PyData) → Prop :=
  Paired fun p q => keyD p.1 = q.1 ∧ ∃ b, p.2 = .ref b ∧ H b = some (.lst []) ∧ G b = none ∧ O b = none ∧ (O1 b ≠ none ∨ H1 b = none) ∧ q.2 = []
theorem RowsU.step {H1 G : Hp} {O1 O : Own} {H G' : Hp} {O' : Own} {H' : Hp} {kv : List (Key × V)} {acc : List (PyData × List PyData)} (h : RowsU H1 O1 G O H kv acc) (s : Step G O H G' O' H') : RowsU H1 O1 G' O' H' kv acc :=
  Paired.mapP h fun p q ⟨e, b, q1, q2, q3, q4, q5, q6⟩ => by
    refine ⟨e, b, q1, s.fr _ _ q2 q4, ?_, ?_, q5, q6⟩
    · cases z : G' b with
      | none => rfl
      | some o =>
        rcases s.gn b (by rw [z]; exact fun z => nomatch z) with y | y | y
        · exact absurd q3 y
        · exact absurd q4 y
        · rw [q2] at y; cases y
    · cases z : O' b with
      | none => rfl
      | some o =>
        rcases s.oo b (by rw [z]; exact fun z => nomatch z) with y | y
        · exact absurd q4 y
        · rw [q2] at y; cases y
theorem rows_any {α : Type} {F : Key × V → PyData × α → Prop} (hF : ∀ p q, F p q → keyD p.1 = q.1) {k : Key} : ∀ {kv : List (Key × V)} {acc : List (PyData × α)}, Paired F kv acc → (kv.any fun p => decide (p.1 = k)) = acc.any fun p => PyData.eqv p.1 (keyD k)
  | _, _, .nil => rfl
  | _, _, .cons h t => by
    rw [List.any_cons, List.any_cons, rows_any hF t, ← hF _ _ h, eqv_key]
/-- a new dict of lists, held by nobody yet -/
def NewDl (Z : Pm) : Hp → Own → Hp → V → List (PyData × List PyData) → Prop := fun G O H v ds => ∃ a kv, v = .ref a ∧ O a = some lim ∧ H a = some (.dK kv) ∧ DlRows Z.K G O H lim kv ds ∧ (kv.map (·.2)).Nodup
theorem dl_turns {wi : TI} {g : TgF} {tk : Env → R PyData} {vs gvs : List Nat} {it : Env → R (List PyData)} (hv : ∀ i, i ∈ gvs → i ∈ vs) {σ : L2.St} {H : Hp} {Q : VK}
    (hw : ∀ R', T_ Z W (fun G _ _ (J : It) ds => ItD Z.K J G ds) it σ H R' → wi σ H R')
    (h : T_ Z W (NewDl Z) (eDl it g tk vs) σ H Q) : tDc wi (TDg Z g gvs) tYes (TD Z WN tk) (tLst tNil) vs σ H Q := by
  refine hw _ ?_
  obtain ⟨ρ, G, O, R, P⟩ := h
  refine t_bind R P fun ds ρ1 J G1 O1 H1 e1 R1 S1 D1 P1 => ?_
  intro D hD
  by_cases hl : ds.length < lim
  case neg =>
    rw [if_neg hl] at P1
    exact P1.elim
  rw [if_pos hl] at P1
  cases e2 : dlGo g tk vs ds [] (wipeE ρ1 vs) with
  | bad =>
    rw [e2] at P1
    exact P1.elim
  | er x ρ2 =>
    rw [e2] at P1
    exact P1.elim
  | ok xs ρ2 =>
    rw [e2] at P1
    let Inv_ : Nat → Hp → Prop := fun i H2 => ∃ ρi Gi Oi acc kvD, Rel Z ρi (L2.wipe σ vs) Gi Oi H2 ∧ Step G1 O1 H1 Gi Oi H2 ∧ H2 D = some (.dK kvD) ∧ Gi D = none ∧ Oi D = none ∧ RowsU H1 O1 Gi Oi H2 kvD acc ∧ (kvD.map (·.2)).Nodup ∧ acc.length ≤ i ∧
      dlGo g tk vs (ds.drop i) acc ρi = .ok xs ρ2
    refine ⟨fun i m H2 => m = ds.length - i ∧ i ≤ ds.length ∧ Inv_ i H2, ⟨ds.length, rfl, Nat.zero_le _, ?_⟩, ?_⟩
    · have gd : G1 D = none := by
        cases q : G1 D with
        | none => rfl
        | some o =>
          rw [R1.gh _ _ q] at hD
          cases hD
      have od : O1 D = none := by
        cases q : O1 D with
        | none => rfl
        | some o => exact absurd hD (R1.oh D (by rw [q]; exact fun z => nomatch z))
      have sd : Same H1 (upd H1 D (.dK [])) := same_new hD
      refine ⟨wipeE ρ1 vs, G1, O1, [], [], ?_, ?_, upd_same, gd, od, .nil, List.nodup_nil, Nat.zero_le _, by rw [List.drop_zero]; exact e2⟩
      · have R2 := R1.wipe vs
        refine ⟨R2.len, R2.gh.trans sd, R2.go, fun a ha => ?_, fun i c hc => (R2.cell i c hc).keep (Same.refl _) (fun _ q => q) fun a o _ q => sd _ _ q⟩
        have := R2.oh a ha
        cases q : H1 a with
        | none => exact absurd q this
        | some o =>
          rw [sd _ _ q]
          exact fun z => nomatch z
      · exact ⟨Same.refl _, fun b hb => .inl hb, fun b hb => .inl hb, fun b o hb _ => sd _ _ hb⟩
    · rintro i m H2 ⟨rfl, hi, ρi, Gi, Oi, acc, kvD, Ri, Si, hDi, gDi, oDi, rD, nd, al, eg⟩
      obtain ⟨j1, j2, j3⟩ := (D1.mono Si.gg) H2 Ri.gh
      by_cases hlt : i < ds.length
      case neg =>
        have ei : i = ds.length := by omega
        subst ei
        rw [List.drop_length] at eg
        cases eg
        refine .inl ⟨j3, ?_⟩
        let O2 : Own := fun b => if b = D ∨ V.ref b ∈ kvD.map (·.2) then some lim else Oi b
        have inU : ∀ b, V.ref b ∈ kvD.map (·.2) → H2 b = some (.lst []) ∧ Gi b = none ∧ Oi b = none ∧ (O1 b ≠ none ∨ H1 b = none) := fun b hb => by
          obtain ⟨p, hp, ep⟩ := List.mem_map.mp hb
          obtain ⟨j, hj⟩ := List.mem_iff_getElem?.mp hp
          obtain ⟨q, _, _, b', w1, w2, w3, w4, w5, _⟩ := paired_get rD hj
          rw [w1] at ep
          cases ep
          exact ⟨w2, w3, w4, w5⟩
        have o2 : ∀ b, O2 b ≠ none → (b = D ∨ V.ref b ∈ kvD.map (·.2)) ∨ Oi b ≠ none := fun b hb => by
          by_cases c : b = D ∨ V.ref b ∈ kvD.map (·.2)
          · exact .inl c
          · have : O2 b = Oi b := if_neg c
            rw [this] at hb
            exact .inr hb
        have R3 : Rel Z (backE ρ1 ρ2 vs) σ Gi O2 H2 := by
          have RR := R1.restore Si.gg Ri
          refine ⟨RR.len, RR.gh, fun a ha => ?_, fun a ha => ?_, fun j c hc => (RR.cell j c hc).keep (Same.refl _) (fun b hb => ?_) fun _ _ _ q => q⟩
          · rcases o2 a ha with (z | z) | z
            · rw [z]; exact gDi
            · exact (inU a z).2.1
            · exact RR.go a z
          · rcases o2 a ha with (z | z) | z
            · rw [z, hDi]; exact fun q => nomatch q
            · rw [(inU a z).1]; exact fun q => nomatch q
            · exact RR.oh a z
          · have : ¬ (b = D ∨ V.ref b ∈ kvD.map (·.2)) := fun z => by
              rcases z with z | z
              · rw [z, oDi] at hb; cases hb
              · rw [(inU b z).2.2.1] at hb; cases hb
            show (if _ then _ else _) = _
            rw [if_neg this]
            exact hb
        refine P1 (.ref D) Gi O2 H2 R3 ⟨Si.gg, Si.gn, fun b hb => ?_, Si.fr⟩ ⟨D, kvD, rfl, if_pos (.inl rfl), hDi, ?_, nd⟩
        · rcases o2 b hb with (z | z) | z
          · exact .inr (by rw [z]; exact hD)
          · exact (inU b z).2.2.2
          · exact Si.oo b z
        · have key : ∀ {kv : List (Key × V)} {acc : List (PyData × List PyData)}, RowsU H1 O1 Gi Oi H2 kv acc → (∀ p ∈ kv, p ∈ kvD) → DlRows Z.K Gi O2 H2 lim kv acc := by
            intro kv acc h hs
            induction h with
            | nil => exact .nil
            | cons a t ih =>
              obtain ⟨e, b, w1, w2, w3, w4, w5, w6⟩ := a
              refine .cons ⟨e, b, [], w1, if_pos (.inr ?_), w2, by rw [w6]; exact .nil⟩ (ih fun p hp => hs p (by simp [hp]))
              rw [← w1]
              exact List.mem_map_of_mem (hs _ (by simp))
          exact key rD fun _ h => h
      refine .inr ⟨j1 i hlt, Inv_ (i + 1), fun H' n' => ⟨ds.length - (i + 1), by omega, rfl, hlt, n'⟩, fun x H' hy => ?_⟩
      obtain ⟨s', d, ed, dr⟩ := j2 i x H' hlt hy
      have ed2 : ds.drop i = d :: ds.drop (i + 1) := by
        rw [List.drop_eq_getElem_cons hlt]
        rw [List.getElem?_eq_getElem hlt] at ed
        cases ed
        rfl
      rw [ed2] at eg
      unfold dlGo at eg
      have Rg := Ri.grow s'
      have Sg := Ri.stepGrow s'
      have gDg : DL.grow Gi H2 H' D = none := grow_none gDi hDi
      have hDg : H' D = some (.dK kvD) := s' _ _ hDi
      cases ge : g d (wipeE ρi vs) with
      | none =>
        rw [ge] at eg
        cases eg
      | some ρ3 =>
        rw [ge] at eg
        dsimp only at eg
        have Rw := Rg.wipe vs
        rw [wipe_wipe] at Rw
        refine ⟨_, _, _, _, ρ3, Rw, dr, ge, fun σ2 sq R3 => ⟨(sq.sub hv).wipe.trans (wipe_wipe σ vs), ?_⟩⟩
        have wq : L2.wipe σ2 vs = L2.wipe σ vs := (sq.sub hv).wipe.trans (wipe_wipe σ vs)
        unfold tYes
        dsimp only
        rw [if_pos rfl]
        refine ⟨ρ3, _, _, R3, ?_⟩
        cases te2 : tk ρ3 with
        | bad =>
          rw [te2] at eg
          cases eg
        | er y ρ5 =>
          rw [te2] at eg
          cases eg
        | ok kd ρ5 =>
          rw [te2] at eg
          dsimp only at eg
          intro y G5 O5 H5 R5 S5 hk
          have kD : G5 D = none ∧ O5 D = none ∧ H5 D = some (.dK kvD) := by
            refine ⟨?_, ?_, S5.fr _ _ hDg oDi⟩
            · cases q : G5 D with
              | none => rfl
              | some o =>
                rcases S5.gn D (by rw [q]; exact fun z => nomatch z) with z | z | z
                · exact absurd gDg z
                · exact absurd oDi z
                · rw [hDg] at z
                  cases z
            · cases q : O5 D with
              | none => rfl
              | some o =>
                rcases S5.oo D (by rw [q]; exact fun z => nomatch z) with z | z
                · exact absurd oDi z
                · rw [hDg] at z
                  cases z
          obtain ⟨k1, k2, k3⟩ := kD
          have rD5 : RowsU H1 O1 G5 O5 H5 kvD acc := (rD.step Sg).step S5
          have S7 := Si.trans (Sg.trans S5)
          split at eg
          case isFalse => cases eg
          rename_i hcd
          obtain ⟨hks, hno⟩ := hcd
          obtain ⟨k, hks⟩ := Option.isSome_iff_exists.mp hks
          have ekd := keyOf_some hks
          subst ekd
          have ey := dr_key hk
          refine ⟨by show (0 : Nat) ≤ sizeLine; exact Nat.zero_le _, fun b hb => ?_⟩
          have nbD : D ≠ b := fun z => by rw [z, hb] at k3; cases k3
          have hput2 : putK kvD k (.ref b) = kvD ++ [(k, .ref b)] := by
            unfold putK
            rw [rows_any (fun p q h => h.1) rD5, hno, if_neg Bool.false_ne_true]
          have sb : Same H5 (upd H5 b (.lst [])) := same_new hb
          have h1b : O1 b ≠ none ∨ H1 b = none := S7.back hb
          have gb : G5 b = none := by
            cases q : G5 b with
            | none => rfl
            | some o => rw [R5.gh _ _ q] at hb; cases hb
          have ob : O5 b = none := by
            cases q : O5 b with
            | none => rfl
            | some o => exact absurd hb (R5.oh b (by rw [q]; exact fun z => nomatch z))
          refine ⟨kvD, k, ey, by rw [upd_ne nbD]; exact k3, ?_, wipeE ρ5 vs, G5, O5, acc ++ [(keyD k, [])], kvD ++ [(k, .ref b)], ?_, ?_, by rw [hput2, upd_same], k1, k2, ?_, ?_, by simp; omega, eg⟩
          · have : kvD.length = acc.length := Paired.length rD
            have : lim ≤ sizeLine := lim_sz (Nat.le_refl _)
            omega
          · have Rw5 := R5.wipe vs
            rw [wq] at Rw5
            have hne : ∀ c o, H5 c = some o → c ≠ D → (upd (upd H5 b (.lst [])) D (.dK (putK kvD k (.ref b)))) c = some o := fun c o e q => by
              rw [upd_ne q]
              exact sb _ _ e
            refine ⟨Rw5.len, fun c o e => hne c o (Rw5.gh c o e) (fun q => ?_), Rw5.go, fun c hc => ?_, fun j c hc => (Rw5.cell j c hc).keep (Same.refl _) (fun _ q => q) fun x o hx e => hne x o e (fun q => ?_)⟩
            · rw [q, k1] at e
              cases e
            · have nb : c ≠ D := fun q => by
                rw [q] at hc
                exact hc k2
              rw [upd_ne nb]
              cases q : H5 c with
              | none => exact absurd q (Rw5.oh c hc)
              | some o =>
                rw [sb _ _ q]
                exact fun z => nomatch z
            · rw [q, k2] at hx
              cases hx
          · refine ⟨S7.gg, S7.gn, S7.oo, fun c o e n => ?_⟩
            have nb : c ≠ D := fun q => by
              rw [q, hD] at e
              cases e
            rw [upd_ne nb]
            exact sb _ _ (S7.fr c o e n)
          · have rn : RowsU H1 O1 G5 O5 (upd (upd H5 b (.lst [])) D (.dK (putK kvD k (.ref b)))) kvD acc := by
              refine Paired.mapP rD5 fun p q ⟨e, c, w1, w2, w3, w4, w5, w6⟩ => ⟨e, c, w1, ?_, w3, w4, w5, w6⟩
              have nb : c ≠ D := fun z => by rw [z, k3] at w2; cases w2
              rw [upd_ne nb]
              exact sb _ _ w2
            exact Paired.snoc rn ⟨rfl, b, rfl, by rw [upd_ne (Ne.symm nbD), upd_same], gb, ob, h1b, rfl⟩
          · rw [List.map_append, List.nodup_append]
            refine ⟨nd, by simp, fun x hx y hy => ?_⟩
            have ey : y = V.ref b := by simpa using hy
            rw [ey]
            intro z
            rw [z] at hx
            obtain ⟨p, hp, ep⟩ := List.mem_map.mp hx
            obtain ⟨j, hj⟩ := List.mem_iff_getElem?.mp hp
            obtain ⟨q, _, _, b', w1, w2, _⟩ := paired_get rD5 hj
            rw [w1] at ep
            cases ep
            rw [hb] at w2
            cases w2
abbrev DDl (X : Cx) (Z : Pm) (W : WX) (e : Expr) (f : Env → R (List (PyData × List PyData))) : Prop := PE X e (T_ Z W (NewDl Z) f)
theorem ddl_dc {kx tg iter : Expr} {scope : Scope} {own : List (Str × Nat)} {pos lp : Pos} {it : Env → R (List PyData)} {g : TgF} {gvs : List Nat} {tk : Env → R PyData} (hc : X.calm = true) (hN : X.N.Nodup) (hi : DI X Z W tg iter it) (ok : BlkOk X.N X.env.scope scope own) (hv : ∀ i, i ∈ gvs → i ∈ own.map (·.2))
    (hg : ∀ s H C cl fp, DG (blkX X scope s H C cl fp) Z tg g gvs) (hk : ∀ s H C cl fp, DE (blkX X scope s H C cl fp) Z WN kx tk) (hs : ∀ x, foldedSetIterable iter X.env x = pure x := by intro _; rfl) :
    DDl X Z W (.DictComp kx (.List [] lp) [⟨tg, iter, [], 0⟩] scope pos) (eDl it g tk (own.map (·.2))) :=
  PE_imp (pe_dc hc hN hi ok hg (fun _ _ _ _ _ => pts_nil) hk (fun _ _ _ _ _ => pe_lst pa_nil) hs) fun σ H Q h => dl_turns hv (fun _ q => q) h
variable {α : Type} {rel : Hp → Own → Hp → V → α → Prop}
def sSetDl (i : Nat) (f : Env → R (List (PyData × List PyData))) : Env → FlR α := fun ρ => toF (f ρ) fun d ρ1 => .nx (ρ1.set i (.dl d))
theorem s_setDl {i : Nat} {x : Str} {e : Expr} {f : Env → R (List (PyData × List PyData))} {pos pos' : Pos} (hl : X.N.length ≤ lim) (hN : X.N.Nodup) (hi : X.N[i]? = some x) (hx : Loc X.env.scope x) (h : DDl X Z W e f) (hs : swapsWith e (some (.Name x pos')) pos.line X.env = pure false := by rfl) (hf : X.fn x = true ∨ X.env.scope.names.lookup x = some .local := by first | exact .inl rfl | exact .inr rfl | assumption) :
    DS X Z W rel (.Assign [.Name x pos'] e pos) (sSetDl i f) := by
  refine ⟨fun pins s σ H D I q => (ps_set hN hi hx h hs hf).run pins s σ H D I ?_⟩
  have hn := (List.getElem?_eq_some_iff.mp hi).1
  have hσ := I.len
  obtain ⟨ρ, G, O, R, P⟩ := q
  refine s_bind R P fun d ρ1 v G1 O1 H1 e1 R1 S1 D1 P1 => ?_
  obtain ⟨a, kv, rfl, ho, hv, r, nd⟩ := D1
  have hl1 : ρ1.length = X.N.length := by rw [R1.len, hσ]
  let O2 : Own := fun b => if O1 b = some lim then some i else O1 b
  have back : ∀ b, O2 b ≠ none → O1 b ≠ none := fun b hb => by
    by_cases z : O1 b = some lim
    · rw [z]; exact fun z => nomatch z
    · have : O2 b = O1 b := if_neg z
      rwa [this] at hb
  refine P1 _ G1 O2 H1 ⟨by rw [List.length_set, List.length_set]; exact R1.len, R1.gh, fun b hb => R1.go b (back b hb), fun b hb => R1.oh b (back b hb), fun j c' h => ?_⟩ ⟨Same.refl _, fun b hb => .inl hb, fun b hb => .inl (back b hb), fun b o hb _ => hb⟩
  by_cases e : i = j
  · subst e
    rw [List.getElem?_set_self (by omega)] at h
    cases h
    refine ⟨a, kv, List.getElem?_set_self (by rw [hσ]; exact hn), if_pos ho, hv, Paired.mapP r fun p q ⟨e1, b, vs, w1, w2, w3, w4⟩ => ⟨e1, b, vs, w1, if_pos w2, w3, w4⟩, nd⟩
  · rw [List.getElem?_set_ne e] at h
    have hj : j < lim := by
      have := (List.getElem?_eq_some_iff.mp h).1
      omega
    refine ((R1.cell j c' h).st (List.getElem?_set_ne e)).keep (Same.refl _) (fun b hb => ?_) fun _ _ _ q => q
    have : O1 b ≠ some lim := fun z => by
      rw [z] at hb
      have := Option.some.inj hb
      omega
    show (if _ then _ else _) = _
    rw [if_neg this]
    exact hb
/-! ### d[k] -/
theorem ix_dget (hu : X.A.units + 64 < cLine) : IxR X (fun x y H Q => ∃ a v, x = .ref a ∧ DGet H a y (some v) ∧ Q v H) := by
  intro value slice pins s σ H x y v u Q I rx ry ⟨a, w, ex, gt, q⟩ hs
  subst ex
  cases rx
  exact tail_any (dict_typeIs I gt) PySem.F.slot_dict_getitem.lookup (d_getItem (by omega) I gt ry fun w' s3 I3 rw' => ⟨w, H, I3, rw', q⟩) hs
theorem rows_find {F : Key × V → PyData × List PyData → Prop} (hF : ∀ p q, F p q → keyD p.1 = q.1) {k : Key} : ∀ {kv : List (Key × V)} {kvs : List (PyData × List PyData)} {ds : List PyData}, Paired F kv kvs → lookDl kvs (keyD k) = some ds → ∃ j p q, kv[j]? = some p ∧ kvs[j]? = some q ∧ F p q ∧ p.1 = k ∧ q.2 = ds ∧ valV kv k = some p.2 ∧ kvs.findIdx? (fun p => PyData.eqv p.1 (keyD k)) = some j
  | _, _, _, .nil, h => by cases h
  | _, _, ds, @Paired.cons _ _ _ p q kv kvs h t, e => by
    unfold lookDl at e
    rw [List.find?_cons] at e
    have e1 := hF _ _ h
    by_cases c : p.1 = k
    · have c2 : PyData.eqv q.1 (keyD k) = true := by rw [← e1, eqv_key, c]; exact decide_eq_true rfl
      rw [c2] at e
      have e : some q.2 = some ds := e
      cases e
      exact ⟨0, p, q, rfl, rfl, h, c, rfl, valV_pos c, by rw [List.findIdx?_cons, c2]; rfl⟩
    · have c2 : PyData.eqv q.1 (keyD k) = false := by rw [← e1, eqv_key]; exact decide_eq_false c
      rw [c2] at e
      obtain ⟨j, p', q', w1, w2, w3, w4, w5, w6, w7⟩ := rows_find hF t e
      refine ⟨j + 1, p', q', by simpa using w1, by simpa using w2, w3, w4, w5, ?_, ?_⟩
      · unfold valV at w6 ⊢
        rw [List.find?_cons, decide_eq_false c]
        exact w6
      · rw [List.findIdx?_cons, c2, w7]
        rfl
theorem Rel.dlAt {ρ : Env} {σ : L2.St} {G : Hp} {O : Own} {H : Hp} (R : Rel Z ρ σ G O H) {i : Nat} {kvs : List (PyData × List PyData)} (h : ρ[i]? = some (.dl kvs)) {k : Key} {ds : List PyData} (e : lookDl kvs (keyD k) = some ds) :
    ∃ a kv j b vs, σ[i]? = some (some (.ref a)) ∧ DGet H a (kV k) (some (.ref b)) ∧ kv[j]? = some (k, .ref b) ∧ kvs.findIdx? (fun p => PyData.eqv p.1 (keyD k)) = some j ∧ H a = some (.dK kv) ∧ O a = some i ∧ DlRows Z.K G O H i kv kvs ∧ (kv.map (·.2)).Nodup ∧ O b = some i ∧ H b = some (.lst vs) ∧ G b = none ∧ DrL Z.K G vs ds ∧
      Same (upd G b (.lst vs)) H ∧ Dr Z.K (upd G b (.lst vs)) (.ref b) (.list ds) := by
  obtain ⟨a, kv, q1, q2, q3, q4, q5⟩ := R.cell i _ h
  obtain ⟨j, p, q, w1, w2, ⟨w3, b, vs, w4, w5, w6, w7⟩, w8, w9, w10, w11⟩ := rows_find (fun p q h => h.1) q4 e
  subst w9
  obtain ⟨pk, pv⟩ := p
  dsimp only at w4 w8 w10
  subst w4 w8
  have gb : G b = none := R.go b (by rw [w5]; exact fun z => nomatch z)
  have gg : Same G (upd G b (.lst vs)) := same_new gb
  refine ⟨a, kv, j, b, vs, q1, .inl ⟨kv, pk, .inl q3, rfl, w10.symm⟩, w1, w11, q3, q2, q4, q5, w5, w6, gb, w7, fun c o hc => ?_, .lst (SqL.of upd_same) (DrL.mono gg w7)⟩
  by_cases z : c = b
  · rw [z, upd_same] at hc
    rw [z, w6]
    exact hc
  · rw [upd_ne z] at hc
    exact R.gh _ _ hc
/-- e in d[k], e not in d[k]; e and k are values that change nothing -/
def eP (f : Env → Option PyData) : Env → R PyData := fun ρ => match f ρ with
  | some d => .ok d ρ
  | none => .bad
def pVar (i : Nat) : Env → Option PyData := fun ρ => match ρ[i]? with
  | some (.fr d) => some d
  | _ => none
def ixSeq : PyData → PyData → Option PyData
  | .list ds, .int k => atI ds k
  | .tuple ds, .int k => atI ds k
  | _, _ => none
def pIx (f g : Env → Option PyData) : Env → Option PyData := fun ρ => match f ρ, g ρ with
  | some d, some e => ixSeq d e
  | _, _ => none
def pC (d : PyData) : Env → Option PyData := fun _ => some d
/-- reading changes nothing -/
def DP (X : Cx) (Z : Pm) (W : WX) (e : Expr) (f : Env → Option PyData) : Prop := ∃ t, PE X e t ∧ ∀ ρ σ G O H d (Q : VK), Rel Z ρ σ G O H → f ρ = some d → (∀ v, Dr Z.K G v d → Q v H) → t σ H Q
theorem dp_var {x : Str} {pos : Pos} (i : Nat) (h : PE X (.Name x pos) (tVar i)) : DP X Z W (.Name x pos) (pVar i) := by
  refine ⟨_, h, fun ρ σ G O H d Q R e q => ?_⟩
  unfold pVar at e
  split at e
  · rename_i d' ed
    cases e
    obtain ⟨v, h1, h2⟩ := R.cell i _ ed
    exact ⟨v, h1, q v h2⟩
  · cases e
theorem dp_int {i : Int} {j pos} : DP X Z W (.Constant (.int i) j pos) (pC (.int i)) := ⟨_, pe_int, fun ρ σ G O H d Q R e q => by cases e; exact q _ (.int i)⟩
theorem dp_ix {a b : Expr} {fa fb : Env → Option PyData} {pos : Pos} (hK : X.K = Z.K) (ha : DP X Z W a fa) (hb : DP X Z W b fb) (hs : PlainIx b) : DP X Z W (.Subscript a b pos) (pIx fa fb) := by
  obtain ⟨t1, h1, k1⟩ := ha
  obtain ⟨t2, h2, k2⟩ := hb
  refine ⟨_, pe_ix (ix_list.or ix_tup) h1 h2 hs, fun ρ σ G O H d Q R e q => ?_⟩
  unfold pIx at e
  split at e
  · rename_i x y ex ey
    refine k1 ρ σ G O H x _ R ex fun v r => k2 ρ σ G O H y _ R ey fun w r2 => ?_
    cases r with
    | lst h1 h2 =>
      cases r2 with
      | int i =>
        obtain ⟨u, e1, r1⟩ := atI_rel h2 e
        exact .inl ⟨_, _, i, u, rfl, rfl, by rw [hK]; exact same_l R.gh h1, e1, q u r1⟩
      | _ => cases e
    | tup h1 h2 =>
      cases r2 with
      | int i =>
        obtain ⟨u, e1, r1⟩ := atI_rel h2 e
        exact .inr ⟨_, _, i, u, rfl, rfl, by rw [hK]; exact h1.sqT R.gh, e1, q u r1⟩
      | _ => cases e
    | _ => cases r2 <;> cases e
  · cases e
def cInDl (g : PyData → PyData → Option Bool) (fa : Env → Option PyData) (i : Nat) (fk : Env → Option PyData) : Env → R Bool := fun ρ => match fa ρ, ρ[i]?, fk ρ with
  | some d, some (.dl kvs), some k => if (keyOf k).isSome = true then match lookDl kvs k with
      | some ds => match g d (.list ds) with
        | some z => .ok z ρ
        | none => .bad
      | none => .bad
    else .bad
  | _, _, _ => .bad
theorem dt_inDl {op : CmpOp} {g : PyData → PyData → Option Bool} {x : Str} {p sp : Pos} {a ek : Expr} {i : Nat} {fa fk : Env → Option PyData} {pos : Pos} (hu : X.A.units + 64 < cLine) (ho : OpR X (compareOp op) (rDb Z.K g)) (ha : DP X Z W a fa) (hx : PE X (.Name x p) (tVar i)) (hk : DP X Z W ek fk) (hs : PlainIx ek) (hm : behindInMarks op (.Subscript (.Name x p) ek sp) = false) :
    DT X Z W (.Compare a [op] [.Subscript (.Name x p) ek sp] pos) (cInDl g fa i fk) := by
  obtain ⟨t1, h1, k1⟩ := ha
  obtain ⟨t2, h2, k2⟩ := hk
  refine PT_imp (pt_cmpR ho h1 (pe_ix (ix_dget hu) hx h2 hs) hm) fun σ H Q ⟨ρ, G, O, R, P⟩ => ?_
  unfold cInDl at P
  split at P
  · rename_i d kvs k ea ei ek
    split at P
    · rename_i hks
      obtain ⟨k', hks⟩ := Option.isSome_iff_exists.mp hks
      have ekd := keyOf_some hks
      subst ekd
      cases el : lookDl kvs (keyD k') with
      | none => rw [el] at P; exact P.elim
      | some ds =>
        rw [el] at P
        dsimp only at P
        cases eg : g d (.list ds) with
        | none => rw [eg] at P; exact P.elim
        | some z =>
          rw [eg] at P
          obtain ⟨a', kv, j, b, vs, w1, w2, w3, w4, w5, w6, w7, w8, w9, w10, w11, w12, w13, w14⟩ := R.dlAt ei el
          refine k1 ρ σ G O H d _ R ea fun v r => ⟨_, w1, k2 ρ σ G O H _ _ R ek fun y ry => ?_⟩
          have ey := dr_key ry
          subst ey
          exact ⟨a', _, rfl, w2, upd G b (.lst vs), d, _, z, w13, r.mono (same_new w11), w14, eg, z, rfl, P z G O H R Step.refl rfl⟩
    · exact P.elim
  · exact P.elim
/-- d[k] == [] -/
def cNilDl (i : Nat) (fk : Env → Option PyData) : Env → R Bool := fun ρ => match ρ[i]?, fk ρ with
  | some (.dl kvs), some k => if (keyOf k).isSome = true then match lookDl kvs k with
      | some ds => if shp (.list ds) = true then .ok ds.isEmpty ρ else .bad
      | none => .bad
    else .bad
  | _, _ => .bad
theorem eqv_nil (ds : List PyData) : PyData.eqv (.list ds) (.list []) = ds.isEmpty := by
  cases ds <;> rfl
theorem dt_nilDl {x : Str} {p sp lp : Pos} {ek : Expr} {i : Nat} {fk : Env → Option PyData} {pos : Pos} (hK : X.K = Z.K) (hu : X.A.units + 64 < cLine) (hx : PE X (.Name x p) (tVar i)) (hk : DP X Z W ek fk) (hs : PlainIx ek) :
    DT X Z W (.Compare (.Subscript (.Name x p) ek sp) [.Eq] [.List [] lp] pos) (cNilDl i fk) := by
  obtain ⟨t2, h2, k2⟩ := hk
  refine PT_imp (pt_cmpR (od_eq (K := Z.K) hK hu) (pe_ix (ix_dget hu) hx h2 hs) (pe_lst pa_nil) (nomark _)) fun σ H Q ⟨ρ, G, O, R, P⟩ => ?_
  unfold cNilDl at P
  split at P
  · rename_i kvs k ei ek
    split at P
    · rename_i hks
      obtain ⟨k', hks⟩ := Option.isSome_iff_exists.mp hks
      have ekd := keyOf_some hks
      subst ekd
      cases el : lookDl kvs (keyD k') with
      | none => rw [el] at P; exact P.elim
      | some ds =>
        rw [el] at P
        dsimp only at P
        split at P
        · rename_i hsh
          obtain ⟨a', kv, j, b, vs, w1, w2, w3, w4, w5, w6, w7, w8, w9, w10, w11, w12, w13, w14⟩ := R.dlAt ei el
          refine ⟨_, w1, k2 ρ σ G O H _ _ R ek fun y ry => ?_⟩
          have ey := dr_key ry
          subst ey
          refine ⟨a', _, rfl, w2, Nat.zero_le _, fun c hc => ?_⟩
          have sc : Same H (upd H c (.lst [])) := same_new hc
          have gc : (upd G b (.lst vs)) c = none := by
            cases q : (upd G b (.lst vs)) c with
            | none => rfl
            | some o => rw [w13 _ _ q] at hc; cases hc
          have sg : Same (upd (upd G b (.lst vs)) c (.lst [])) (upd H c (.lst [])) := fun z o e => by
            by_cases q : z = c
            · rw [q, upd_same] at e ⊢
              exact e
            · rw [upd_ne q] at e ⊢
              exact w13 _ _ e
          have Rn := R.grow sc
          refine ⟨upd (upd G b (.lst vs)) c (.lst []), .list ds, .list [], ds.isEmpty, sg, w14.mono (same_new gc), .lst (SqL.of upd_same) .nil, ?_, ds.isEmpty, rfl, P _ _ _ _ Rn (R.stepGrow sc) rfl⟩
          unfold eqB
          rw [if_pos ⟨hsh, by decide⟩, eqv_nil]
        · exact P.elim
    · exact P.elim
  · exact P.elim
/-- sorted(d[k]) -/
theorem cr_sortedB (hu : X.A.units + 80 < cLine) : CallR X (.builtin "sorted") (fun xs H Q => ∃ a vs G ds z, xs = [.ref a] ∧ SqL X.K H a vs ∧ Same G H ∧ DrL X.K G vs ds ∧ sortL ds = some z ∧ ∀ v H', Same H H' → Dr X.K (grow G H H') v z → Q v H') := by
  intro pins s σ H xs us Q I r ⟨a, vs, G, ds, z, ex, h1, g, h2, hz, q⟩
  subst ex
  obtain ⟨u, rfl, rx⟩ := vals1 r
  cases rx
  obtain ⟨its, rv, pl, hlz⟩ := I.list h1
  exact sorted_go I hu g h2 hz q fun Q' k => collect_list pl.isList (k _ _ _ rv fun b o e => (Heap.get?_update_other _ _ (Ne.symm (Nat.ne_of_lt (Heap.lt_size e)))).trans (Heap.get?_push_of_some _ e)) (by rw [← rv.length]; exact hlz)
def eSortDl (i : Nat) (fk : Env → Option PyData) : Env → R PyData := fun ρ => match ρ[i]?, fk ρ with
  | some (.dl kvs), some k => if (keyOf k).isSome = true then match lookDl kvs k with
      | some ds => match sortL ds with
        | some z => .ok z ρ
        | none => .bad
      | none => .bad
    else .bad
  | _, _ => .bad
theorem de_sortDl {x : Str} {p sp cp pos : Pos} {ek : Expr} {i : Nat} {fk : Env → Option PyData} (hK : X.K = Z.K) (hu : X.A.units + 80 < cLine) (hg : Gl X "sorted") (hm : X.mg "sorted" = none) (hx : PE X (.Name x p) (tVar i)) (hk : DP X Z W ek fk) (hs : PlainIx ek)
    (he : starEach [.Subscript (.Name x p) ek sp] X.env = (false, eval (.Subscript (.Name x p) ek sp) X.env) :: starEach [] X.env := by rfl) (hpl : (backTo pos (starEach [] X.env)).any (·.1) = false := by rfl) :
    DE X Z W (.Call (.Name "sorted" cp) [.Subscript (.Name x p) ek sp] [] pos) (eSortDl i fk) := by
  obtain ⟨t2, h2, k2⟩ := hk
  refine PE_imp (pe_callB (cr_sortedB hu) hg hm (by decide +kernel) (pa_cons (pe_ix (ix_dget (by omega)) hx h2 hs) pa_nil he) (by decide) (by decide) he hpl) fun σ H Q ⟨ρ, G, O, R, P⟩ => ?_
  unfold eSortDl at P
  split at P
  · rename_i kvs k ei ek
    split at P
    · rename_i hks
      obtain ⟨k', hks⟩ := Option.isSome_iff_exists.mp hks
      have ekd := keyOf_some hks
      subst ekd
      cases el : lookDl kvs (keyD k') with
      | none => rw [el] at P; exact P.elim
      | some ds =>
        rw [el] at P
        dsimp only at P
        cases es : sortL ds with
        | none => rw [es] at P; exact P.elim
        | some z =>
          rw [es] at P
          obtain ⟨a', kv, j, b, vs, w1, w2, w3, w4, w5, w6, w7, w8, w9, w10, w11, w12, w13, w14⟩ := R.dlAt ei el
          refine ⟨_, w1, k2 ρ σ G O H _ _ R ek fun y ry => ?_⟩
          have ey := dr_key ry
          subst ey
          refine ⟨a', _, rfl, w2, b, vs, G, ds, z, rfl, SqL.of w10, R.gh, by rw [hK]; exact w12, es, fun v H' s D => ?_⟩
          rw [hK] at D
          exact post_pure R P v H' s D
    · exact P.elim
  · exact P.elim
/-- d[k].append(e) -/
def putDl (kvs : List (PyData × List PyData)) (k : PyData) (ds : List PyData) : List (PyData × List PyData) := match kvs.findIdx? (fun p => PyData.eqv p.1 k) with
  | some j => kvs.set j (k, ds)
  | none => kvs
def eAppDl (i : Nat) (fk fe : Env → Option PyData) : Env → R PyData := fun ρ => match ρ[i]?, fk ρ, fe ρ with
  | some (.dl kvs), some k, some d => if (keyOf k).isSome = true then match lookDl kvs k with
      | some ds => if ds.length < lim then .ok .none (ρ.set i (.dl (putDl kvs k (ds ++ [d])))) else .bad
      | none => .bad
    else .bad
  | _, _, _ => .bad
theorem de_appDl {x : Str} {p sp apos cpos : Pos} {ek e : Expr} {i : Nat} {fk fe : Env → Option PyData} (hu : X.A.units + 64 < cLine) (hx : PE X (.Name x p) (tVar i)) (hk : DP X Z W ek fk) (hs : PlainIx ek) (he : DP X Z W e fe)
    (hbase : attributeBase (.Subscript (.Name x p) ek sp) "append" X.env (eval (.Subscript (.Name x p) ek sp) X.env) = eval (.Subscript (.Name x p) ek sp) X.env := by rfl)
    (hfew : ((backTo cpos (starEach [e] X.env)).all (fun x => !x.1) && (backToKw cpos (keywordEach [] X.env)).all (fun x => x.1.isSome)
      && decide (([e] : List Expr).length + ([] : List Keyword).length + (if ([] : List Keyword).isEmpty then 0 else 1) < 30)) = true := by rfl)
    (hline : (apos.endLine == cpos.line) = true := by rfl) (hst : starEach [e] X.env = (false, eval e X.env) :: starEach [] X.env := by rfl) (hplain : (backTo cpos (starEach [] X.env)).any (·.1) = false := by rfl) :
    DE X Z W (.Call (.Attribute (.Subscript (.Name x p) ek sp) "append" apos) [e] [] cpos) (eAppDl i fk fe) := by
  obtain ⟨t2, h2, k2⟩ := hk
  obtain ⟨t3, h3, k3⟩ := he
  refine PE_imp (pe_bm PySem.F.plainAttrs_list PySem.F.slot_list_append PySem.F.type_list_append mt_append (pe_ix (ix_dget hu) hx h2 hs) (pa_cons h3 pa_nil hst) hbase hfew hline hst hplain) fun σ H Q ⟨ρ, G, O, R, P⟩ => ?_
  unfold eAppDl at P
  split at P
  · rename_i kvs k d ei ek ed
    split at P
    · rename_i hks
      obtain ⟨k', hks⟩ := Option.isSome_iff_exists.mp hks
      have ekd := keyOf_some hks
      subst ekd
      cases el : lookDl kvs (keyD k') with
      | none => rw [el] at P; exact P.elim
      | some ds =>
        rw [el] at P
        dsimp only at P
        split at P
        · rename_i hln
          obtain ⟨a', kv, j, b, vs, w1, w2, w3, w4, w5, w6, w7, w8, w9, w10, w11, w12, w13, w14⟩ := R.dlAt ei el
          refine ⟨_, w1, k2 ρ σ G O H _ _ R ek fun y ry => ?_⟩
          have ey := dr_key ry
          subst ey
          refine ⟨a', _, rfl, w2, .inl ⟨rfl, _, SqL.of w10⟩, ?_⟩
          refine k3 ρ σ G O H d _ R ed fun w rw' => ?_
          refine ⟨b, vs, w, rfl, rfl, w10, by rw [w12.len]; exact Nat.lt_of_lt_of_le hln (lim_sz (Nat.le_refl _)), ?_⟩
          have hi : i < ρ.length := (List.getElem?_eq_some_iff.mp ei).1
          have nab : a' ≠ b := fun z => by rw [z, w10] at w5; cases w5
          have ne : ∀ c o, H c = some o → c ≠ b → (upd H b (.lst (vs ++ [w]))) c = some o := fun c o e q => by rw [upd_ne q]; exact e
          refine P .non G O _ ⟨by rw [List.length_set]; exact R.len, fun c o e => ne c o (R.gh _ _ e) (fun q => by rw [q, w11] at e; cases e), R.go, fun c hc => ?_, fun l c' e => ?_⟩ ⟨Same.refl _, fun c hc => .inl hc, fun c hc => .inl hc, fun c o e n => ne c o e (fun q => by rw [q, w9] at n; cases n)⟩ .non
          · by_cases z : c = b
            · rw [z, upd_same]; exact fun z => nomatch z
            · rw [upd_ne z]; exact R.oh c hc
          · by_cases z : i = l
            · subst z
              rw [List.getElem?_set_self hi] at e
              cases e
              refine ⟨a', kv, w1, w6, ne _ _ w5 nab, ?_, w8⟩
              unfold putDl
              rw [w4]
              dsimp only
              have hjb : ∀ m p, kv[m]? = some p → m ≠ j → p.2 ≠ .ref b := fun m p e1 e2 z => by
                have h1 : (kv.map (·.2))[m]? = some (.ref b) := by rw [List.getElem?_map, e1]; exact congrArg some z
                have h2 : (kv.map (·.2))[j]? = some (.ref b) := by rw [List.getElem?_map, w3]; rfl
                exact e2 ((List.getElem?_inj (List.getElem?_eq_some_iff.mp h1).1 w8).mp (h1.trans h2.symm))
              have key : ∀ {kv' : List (Key × V)} {kvs' : List (PyData × List PyData)} (off : Nat), DlRows Z.K G O H i kv' kvs' → (∀ m, kv'[m]? = kv[off + m]?) → DlRows Z.K G O (upd H b (.lst (vs ++ [w]))) i kv' (if off ≤ j then kvs'.set (j - off) (keyD k', ds ++ [d]) else kvs') := by
                intro kv' kvs' off h hm
                induction h generalizing off with
                | nil => split <;> exact .nil
                | @cons p q l1 l2 a t ih =>
                  have ih := ih (off + 1) (fun m => by
                    have := hm (m + 1)
                    rw [List.getElem?_cons_succ] at this
                    rw [this]
                    congr 1
                    omega)
                  have h0 : kv[off]? = some p := by
                    have := hm 0
                    rw [List.getElem?_cons_zero] at this
                    rw [Nat.add_zero] at this
                    exact this.symm
                  by_cases c1 : off = j
                  · subst c1
                    rw [if_neg (by omega)] at ih
                    rw [if_pos (Nat.le_refl _), Nat.sub_self, List.set_cons_zero]
                    rw [w3] at h0
                    cases h0
                    exact .cons ⟨rfl, b, vs ++ [w], rfl, w9, upd_same, w12.append (.cons rw' .nil)⟩ ih
                  · obtain ⟨u1, c, us, u2, u3, u4, u5⟩ := a
                    have ncb : c ≠ b := fun z => hjb off p h0 c1 (by rw [u2, z])
                    by_cases c2 : off ≤ j
                    · rw [if_pos c2]
                      rw [if_pos (by omega)] at ih
                      rw [show j - off = (j - (off + 1)) + 1 by omega, List.set_cons_succ]
                      exact .cons ⟨u1, c, us, u2, u3, ne _ _ u4 ncb, u5⟩ ih
                    · rw [if_neg c2]
                      rw [if_neg (by omega)] at ih
                      exact .cons ⟨u1, c, us, u2, u3, ne _ _ u4 ncb, u5⟩ ih
              have := key 0 w7 (fun m => by rw [Nat.zero_add])
              rw [if_pos (Nat.zero_le _), Nat.sub_zero] at this
              exact this
            · rw [List.getElem?_set_ne z] at e
              refine (R.cell l c' e).keep (Same.refl _) (fun _ q => q) fun c o hc ho => ne c o ho (fun q => ?_)
              rw [q, w9] at hc
              exact z (Option.some.inj hc)
        · exact P.elim
    · exact P.elim
  · exact P.elim
end
end DL

/-! D15: dicts compared with {}. -/
namespace DL
open PySem PySem.Spec PyProof.Rows L2
section
variable {X : Cx} {Z : Pm} {W : WX}
theorem op_ne_nil (hu : X.A.units < cLine) : OpR X (compareOp .NotEq) (fun x y H Q => ∃ a b ks, x = .ref a ∧ y = .ref b ∧ Rd H a (.dK ks) ∧ H b = some (.dK []) ∧ Q (.bl (!ks.isEmpty)) H) := by
  intro pins s σ H x y v u Q I rx ry h
  obtain ⟨a, b, ks, rfl, rfl, ea, eb, q⟩ := h
  obtain rfl : v = Value.ref a := rx
  obtain rfl : u = Value.ref b := ry
  obtain ⟨_, ya, va, ra, da⟩ := dk_rd I.hok ea
  obtain ⟨_, yb, vb, rb, db⟩ := (show ObjOk X.prog X.w H s.heap b (.dK []) from I.hok b _ eb)
  cases rb
  have hl : va.length = ks.length := ra.length.symm
  refine PySem.W.keq_ne (knd := mixKind X.prog X.w) (r := true) ya yb da db hu (fun e => ?_) (fin_bl I q ?_)
  · have : va = [] := List.eq_nil_of_length_eq_zero e
    rw [this]
    exact .nil
  · cases ks with
    | nil => simp [hl]
    | cons p r => simp [hl]
theorem op_eq_nil (hu : X.A.units < cLine) : OpR X (compareOp .Eq) (fun x y H Q => ∃ a b ks, x = .ref a ∧ y = .ref b ∧ Rd H a (.dK ks) ∧ H b = some (.dK []) ∧ Q (.bl ks.isEmpty) H) := by
  intro pins s σ H x y v u Q I rx ry h
  obtain ⟨a, b, ks, rfl, rfl, ea, eb, q⟩ := h
  obtain rfl : v = Value.ref a := rx
  obtain rfl : u = Value.ref b := ry
  obtain ⟨_, ya, va, ra, da⟩ := dk_rd I.hok ea
  obtain ⟨_, yb, vb, rb, db⟩ := (show ObjOk X.prog X.w H s.heap b (.dK []) from I.hok b _ eb)
  cases rb
  have hl : va.length = ks.length := ra.length.symm
  refine PySem.W.keq_eq (knd := mixKind X.prog X.w) (r := true) ya yb da db hu (fun e => ?_) (fin_bl I q ?_)
  · have : va = [] := List.eq_nil_of_length_eq_zero e
    rw [this]
    exact .nil
  · cases ks with
    | nil => simp [hl]
    | cons p r => simp [hl]
def cDNil (neg : Bool) (fa : Env → R PyData) : Env → R Bool := fun ρ => (fa ρ).bind fun d ρ1 => match d with
  | .dict kvs => .ok (if neg = true then !kvs.isEmpty else kvs.isEmpty) ρ1
  | _ => .bad
theorem dt_neNil {a : Expr} {fa : Env → R PyData} {pos p2 : Pos} (hu : X.A.units < cLine) (ha : DE X Z W a fa) : DT X Z W (.Compare a [.NotEq] [.Dict [] [] p2] pos) (cDNil true fa) := by
  refine PT_imp (pt_cmpR (op_ne_nil hu) ha pe_dnewK (nomark _)) fun σ H Q ⟨ρ, G, O, R, P⟩ => ?_
  refine t_bind R P fun d ρ1 v G1 O1 H1 e1 R1 S1 D1 P1 => ?_
  cases D1 with
  | @dK l o kv kvs h1 h2 =>
    intro p hp
    have sp : Same H1 (upd H1 p (.dK [])) := same_new hp
    have e : kv.isEmpty = kvs.isEmpty := by
      cases h2 <;> rfl
    refine ⟨l, p, kv, rfl, rfl, .inr ⟨_, sp _ _ (R1.gh _ _ h1)⟩, upd_same, _, rfl, ?_⟩
    rw [e]
    exact P1 _ _ _ _ (R1.grow sp) (R1.stepGrow sp) rfl
  | _ => exact P1.elim
theorem dt_eqNil {a : Expr} {fa : Env → R PyData} {pos p2 : Pos} (hu : X.A.units < cLine) (ha : DE X Z W a fa) : DT X Z W (.Compare a [.Eq] [.Dict [] [] p2] pos) (cDNil false fa) := by
  refine PT_imp (pt_cmpR (op_eq_nil hu) ha pe_dnewK (nomark _)) fun σ H Q ⟨ρ, G, O, R, P⟩ => ?_
  refine t_bind R P fun d ρ1 v G1 O1 H1 e1 R1 S1 D1 P1 => ?_
  cases D1 with
  | @dK l o kv kvs h1 h2 =>
    intro p hp
    have sp : Same H1 (upd H1 p (.dK [])) := same_new hp
    have e : kv.isEmpty = kvs.isEmpty := by
      cases h2 <;> rfl
    refine ⟨l, p, kv, rfl, rfl, .inr ⟨_, sp _ _ (R1.gh _ _ h1)⟩, upd_same, _, rfl, ?_⟩
    rw [e]
    exact P1 _ _ _ _ (R1.grow sp) (R1.stepGrow sp) rfl
  | _ => exact P1.elim
end
end DL

/-! D16: short words for the walk. -/
namespace DL
open PySem PySem.Spec PyProof.Rows L2
def Cst (mg : Str → Option Value) (x : Str) (d : PyData) : Prop := ∃ v u, mg x = some u ∧ RelV v u ∧ ∀ (K : PySem.W.Frag) (G : Hp), Dr K G v d
section
variable {P : Program} {w : World} {K : PySem.W.Frag} {mg : Str → Option Value} {base : Heap}
/-- a def as it is called -/
structure Cal (P : Program) (w : World) (K : PySem.W.Frag) (mg : Str → Option Value) (base : Heap) (d : Nat) (x : Str) (ps : List Str) (sp : Sp) : Prop where
  ex : ∃ f fd, FnOk P w K mg base (L2.CX P w) d f fd ps sp ∧ mg x = some (.ref f) ∧ PySem.W.keepIn K (.ref f) = true ∧ Binds K fd ps []
structure CalM (P : Program) (w : World) (K : PySem.W.Frag) (mg : Str → Option Value) (base : Heap) (d : Nat) (C : Addr) (m : Str) (ps : List Str) (sp : Sp) : Prop where
  ex : ∃ f fd, FnOk P w K mg base (L2.CX P w) d f fd ps sp ∧ Meth K C m f ∧ Binds K fd ps []
structure CalI (P : Program) (w : World) (K : PySem.W.Frag) (mg : Str → Option Value) (base : Heap) (d : Nat) (C : Addr) (x : Str) (ps : List Str) (sp : Sp) : Prop where
  ex : ∃ f fd, FnOk P w K mg base (L2.CX P w) d f fd ps sp ∧ Mk K C f ∧ mg x = some (.ref C) ∧ Binds K fd ps []
theorem Cal.mono {d d' : Nat} {x : Str} {ps : List Str} {sp : Sp} (h : Cal P w K mg base d x ps sp) (e : d ≤ d') : Cal P w K mg base d' x ps sp := by
  obtain ⟨f, fd, a, b, c, r⟩ := h.ex
  exact ⟨f, fd, a.mono e, b, c, r⟩
theorem CalM.mono {d d' : Nat} {C : Addr} {m : Str} {ps : List Str} {sp : Sp} (h : CalM P w K mg base d C m ps sp) (e : d ≤ d') : CalM P w K mg base d' C m ps sp := by
  obtain ⟨f, fd, a, b, c⟩ := h.ex
  exact ⟨f, fd, a.mono e, b, c⟩
theorem CalI.mono {d d' : Nat} {C : Addr} {x : Str} {ps : List Str} {sp : Sp} (h : CalI P w K mg base d C x ps sp) (e : d ≤ d') : CalI P w K mg base d' C x ps sp := by
  obtain ⟨f, fd, a, b, c, r⟩ := h.ex
  exact ⟨f, fd, a.mono e, b, c, r⟩
/-- a def as the top has written it -/
structure DefX (K : PySem.W.Frag) (mg : Str → Option Value) (y x qual : Str) (st : Stmt) (ps : List Str) : Prop where
  ex : ∃ f fd, Fun K x qual st f fd ∧ mg y = some (.ref f) ∧ Binds K fd ps []
structure DefM (K : PySem.W.Frag) (C : Addr) (m qual : Str) (st : Stmt) (ps : List Str) : Prop where
  ex : ∃ f fd, Fun K m qual st f fd ∧ Meth K C m f ∧ Binds K fd ps []
structure DefI (K : PySem.W.Frag) (mg : Str → Option Value) (C : Addr) (c qual : Str) (st : Stmt) (ps : List Str) : Prop where
  ex : ∃ f fd, Fun K "__init__" qual st f fd ∧ Mk K C f ∧ mg c = some (.ref C) ∧ Binds K fd ps []
theorem DefX.cal {y x qual : Str} {st : Stmt} {ps : List Str} {d : Nat} {sp : Sp} (D : DefX K mg y x qual st ps) (h : ∀ {f fd}, Fun K x qual st f fd → FnOk P w K mg base (L2.CX P w) d f fd ps sp) : Cal P w K mg base d y ps sp := by
  obtain ⟨f, fd, F, hm, hb⟩ := D.ex
  exact ⟨f, fd, h F, hm, F.kp, hb⟩
theorem DefM.cal {C : Addr} {m qual : Str} {st : Stmt} {ps : List Str} {d : Nat} {sp : Sp} (D : DefM K C m qual st ps) (h : ∀ {f fd}, Fun K m qual st f fd → FnOk P w K mg base (L2.CX P w) d f fd ps sp) : CalM P w K mg base d C m ps sp := by
  obtain ⟨f, fd, F, hm, hb⟩ := D.ex
  exact ⟨f, fd, h F, hm, hb⟩
theorem DefI.cal {C : Addr} {c qual : Str} {st : Stmt} {ps : List Str} {d : Nat} {sp : Sp} (D : DefI K mg C c qual st ps) (h : ∀ {f fd}, Fun K "__init__" qual st f fd → FnOk P w K mg base (L2.CX P w) d f fd ps sp) : CalI P w K mg base d C c ps sp := by
  obtain ⟨f, fd, F, hk, hm, hb⟩ := D.ex
  exact ⟨f, fd, h F, hk, hm, hb⟩
theorem fn_none {α : Type} {ct : Nat → Addr} {rel : Hp → Own → Hp → V → α → Prop} {n k : Nat} {f : Addr} {fd : FuncData} {ps : List Str} (hn : ps.length = n) : FnOk P w K mg base (L2.CX P w) k f fd ps (spF K ct rel n fun _ => .bad) :=
  ⟨fun vs H Q E h => by rw [hn]; exact h.1, fun A outer s H args us vs Q E _ _ _ _ h => by
    obtain ⟨_, _, _, _, _, _, z⟩ := h
    exact z.elim⟩
theorem u70 {k : Nat} {A : Around} (r : Room k A) : A.units + 70 < cLine := by
  have := r.un
  omega
theorem u80 {k : Nat} {A : Around} (r : Room k A) : A.units + 80 < cLine := by
  have := r.un
  omega
end
section
variable {X : Cx} {Z : Pm} {W : WX}
theorem de_cst {x : Str} {d : PyData} {pos : Pos} (h : Cst X.mg x d) (hg : Gl X x) (hd : (x == ("__debug__" : Str)) = false := by decide) : DE X Z W (.Name x pos) (eC d) := by
  obtain ⟨v, u, hm, r, k⟩ := h
  exact de_glob hg hm r (fun G => k _ G) hd
theorem de_cal {x : Str} {p pos : Pos} {e : Expr} {es : List Expr} {g : Env → R (List AV)} {F : Env → R PyData} {ps : List Str} {k n : Nat} (C : Cal X.prog X.w X.K X.mg X.base k x ps (spF Z.K Z.ct (fun G _ _ v d => Dr Z.K G v d) n F)) (hr : Room k X.A) (hg : Gl X x)
    (tk : Takes X W) (hl : X.N.length ≤ lim) (ha : DAV X Z W (e :: es) g) (hn2 : n ≤ 1000 := by decide) (hdb : (x == ("__debug__" : Str)) = false := by decide) (he : starEach (e :: es) X.env = (false, eval e X.env) :: starEach es X.env := by rfl) (hpl : (backTo pos (starEach es X.env)).any (·.1) = false := by rfl) :
    DE X Z W (.Call (.Name x p) (e :: es) [] pos) (eCallF n F g) := by
  obtain ⟨f, fd, hF, hm, hk, hb⟩ := C.ex
  exact de_call hF hr hg hm hk hb tk hl ha hn2 hdb he hpl
theorem df_cal {x : Str} {p pos : Pos} {e : Expr} {es : List Expr} {g : Env → R (List AV)} {F : Env → R (List PyData)} {ps : List Str} {k n : Nat} (C : Cal X.prog X.w X.K X.mg X.base k x ps (spF Z.K Z.ct (NewL Z) n F)) (hr : Room k X.A) (hg : Gl X x)
    (tk : Takes X W) (hl : X.N.length ≤ lim) (ha : DAV X Z W (e :: es) g) (hn2 : n ≤ 1000 := by decide) (hdb : (x == ("__debug__" : Str)) = false := by decide) (he : starEach (e :: es) X.env = (false, eval e X.env) :: starEach es X.env := by rfl) (hpl : (backTo pos (starEach es X.env)).any (·.1) = false := by rfl) :
    DF X Z W (.Call (.Name x p) (e :: es) [] pos) (eCallF n F g) := by
  obtain ⟨f, fd, hF, hm, hk, hb⟩ := C.ex
  exact df_call hF hr hg hm hk hb tk hl ha hn2 hdb he hpl
theorem de_methC {x : Str} {p apos pos : Pos} {m : Str} {e : Expr} {es : List Expr} {g : Env → R (List AV)} {F : Env → R PyData} {ps : List Str} {k n i c : Nat} {pl : Sem Bool} (C : CalM X.prog X.w X.K X.mg X.base k (Z.ct c) m ps (spF Z.K Z.ct (fun G _ _ v d => Dr Z.K G v d) n F)) (cl : Cls X.K (Z.ct c)) (hr : Room k X.A) (ha : PE X (.Name x p) (tVar i))
    (tk : Takes X W) (hl : X.N.length ≤ lim) (hargs : DAV X Z W (e :: es) g) (hn2 : n ≤ 1000 := by decide)
    (hst : starEach (e :: es) X.env = (false, eval e X.env) :: starEach es X.env := by rfl) (hpl : (backTo pos (starEach es X.env)).any (·.1) = false := by rfl)
    (ht : eval (.Call (.Attribute (.Name x p) m apos) (e :: es) [] pos) X.env = (do
      let ov ← eval (.Name x p) X.env
      standAt apos.atName
      let (f, first) ← holding [ov] (getMethod ov m pl)
      callWith pos f first (backTo pos (starEach (e :: es) X.env)) (backToKw pos (keywordEach [] X.env))) := by rfl) :
    DE X Z W (.Call (.Attribute (.Name x p) m apos) (e :: es) [] pos) (eMeth c m n F i g) := by
  obtain ⟨f, fd, hF, hm, hb⟩ := C.ex
  exact de_meth ha cl hm hF hr hb tk hl hargs hn2 hst hpl ht
theorem de_meth0C {x : Str} {p apos pos : Pos} {m : Str} {F : Env → R PyData} {ps : List Str} {k n i c : Nat} {pl : Sem Bool} (C : CalM X.prog X.w X.K X.mg X.base k (Z.ct c) m ps (spF Z.K Z.ct (fun G _ _ v d => Dr Z.K G v d) n F)) (cl : Cls X.K (Z.ct c)) (hr : Room k X.A) (ha : PE X (.Name x p) (tVar i))
    (tk : Takes X W) (hl : X.N.length ≤ lim) (hn2 : n ≤ 1000 := by decide)
    (ht : eval (.Call (.Attribute (.Name x p) m apos) [] [] pos) X.env = (do
      let ov ← eval (.Name x p) X.env
      standAt apos.atName
      let (f, first) ← holding [ov] (getMethod ov m pl)
      callWith pos f first (backTo pos (starEach [] X.env)) (backToKw pos (keywordEach [] X.env))) := by rfl) :
    DE X Z W (.Call (.Attribute (.Name x p) m apos) [] [] pos) (eMeth c m n F i avNil) := by
  obtain ⟨f, fd, hF, hm, hb⟩ := C.ex
  exact de_meth0 ha cl hm hF hr hb tk hl hn2 ht
theorem dn_mk {x : Str} {p pos : Pos} {e : Expr} {es : List Expr} {g : Env → R (List AV)} {F : Env → R PyData} {ps : List Str} {k n c : Nat} (C : CalI X.prog X.w X.K X.mg X.base k (Z.ct c) x ps (spF Z.K Z.ct (fun G _ _ v d => Dr Z.K G v d) n F)) (hr : Room (k + 1) X.A) (hg : Gl X x)
    (tk : Takes X W) (hl : X.N.length ≤ lim) (ha : DAV X Z W (e :: es) g) (hn2 : n ≤ 1000 := by decide) (hdb : (x == ("__debug__" : Str)) = false := by decide) (he : starEach (e :: es) X.env = (false, eval e X.env) :: starEach es X.env := by rfl) (hpl : (backTo pos (starEach es X.env)).any (·.1) = false := by rfl) :
    DNew X Z W (.Call (.Name x p) (e :: es) [] pos) (eMake c n F g) := by
  obtain ⟨f, fd, hF, hk, hm, hb⟩ := C.ex
  exact dn_make hk hF hr hg hm hb tk hl ha hn2 hdb he hpl
def eListZip2 (f : Env → R (List PyData)) : Env → R PyData := fun ρ => (iArgs zip2 f ρ).bind fun ds ρ1 => if ds.length ≤ lim then .ok (.list ds) ρ1 else .bad
theorem de_lz2 {e1 e2 : Expr} {f : Env → R (List PyData)} {p p2 p3 pos : Pos} (hK : X.K = Z.K) (hc : X.calm = true) (hgl : Gl X "list") (hml : X.mg "list" = none) (hgz : Gl X "zip") (hmz : X.mg "zip" = none) (h : DAs X Z W [e1, e2] f)
    (hs : starEach [e1, e2] X.env = (false, eval e1 X.env) :: starEach [e2] X.env := by rfl) (hpl : (backTo p3 (starEach [e2] X.env)).any (·.1) = false := by rfl)
    (na : starEach [.Call (.Name "zip" p2) [e1, e2] [] p3] X.env = (false, eval (.Call (.Name "zip" p2) [e1, e2] [] p3) X.env) :: starEach [] X.env := by rfl) :
    DE X Z W (.Call (.Name "list" p) [.Call (.Name "zip" p2) [e1, e2] [] p3] [] pos) (eListZip2 f) := de_listZip2 hK hc hgl hml hgz hmz h hs hpl na
theorem di_bad {tg e : Expr} : DI X Z W tg e (fun _ => .bad) := ⟨fun _ _ _ _ _ _ h => by
  obtain ⟨_, _, _, _, z⟩ := h
  exact z.elim⟩
end
end DL

/-! D17: a, b = x, y with plain local names. -/
namespace DL
open PySem PySem.Spec PyProof.Rows L2
variable {X : L2.Cx} {Z : Pm} {W : WX} {α : Type} {rel : Hp → Own → Hp → V → α → Prop}
def sPar (i j : Nat) (f : Env → R (List PyData)) : Env → FlR α := fun ρ => toF (f ρ) fun ds ρ1 => match ds with
  | [a, b] => .nx ((ρ1.set i (.fr a)).set j (.fr b))
  | _ => .bad
theorem s_par {i j : Nat} {x y : Str} {a b : Expr} {f : Env → R (List PyData)} {px py pt pos pt2 : Pos} {kt k2 : Nat} (hc : X.calm = true) (hN : X.N.Nodup) (hi : X.N[i]? = some x) (hj : X.N[j]? = some y) (hij : i ≠ j)
    (hx : X.env.scope.names.lookup x = some .local) (hy : X.env.scope.names.lookup y = some .local) (ha : DAs X Z W [a, b] f)
    (hw : swappedStores [.Tuple [.Name x px, .Name y py] kt pt] (.Tuple [a, b] k2 pt2) X.env = pure (some [x, y]) := by rfl)
    (hs : swapsWithSole [.Tuple [.Name x px, .Name y py] kt pt] (.Tuple [a, b] k2 pt2) pos.line X.env = pure false := by rfl) :
    DS X Z W rel (.Assign [.Tuple [.Name x px, .Name y py] kt pt] (.Tuple [a, b] k2 pt2) pos) (sPar i j f) := by
  refine PS_imp (ps_par hc hN hi hj hij hx hy ha hw hs) fun D σ H ⟨ρ, G, O, R, P⟩ => ?_
  refine s_bind R P fun ds ρ1 vs G1 O1 H1 e1 R1 S1 D1 P1 => ?_
  obtain ⟨D1, n1⟩ := D1
  cases D1 with
  | nil => exact P1.elim
  | cons p q =>
    cases q with
    | nil => exact P1.elim
    | cons p' q' =>
      cases q' with
      | nil => exact ⟨_, _, rfl, P1 _ G1 O1 H1 ((R1.fr p).fr p') Step.refl⟩
      | cons _ _ => exact P1.elim
end DL

/-! D18: sets of keys: a place for each hash in a table of enough room. -/
namespace DL
open PySem PySem.Spec PyProof.Rows L2
/-! ### a free slot is found -/
def GoodM (m : Nat) : Prop := m = 7 ∨ m = 15 ∨ m = 31 ∨ m = 63 ∨ m = 127
/-- the n-th run's start and what is left of the hash -/
def runS (m : Nat) : Nat → Nat × Nat → Nat × Nat
  | 0, p => p
  | n + 1, p => runS m n (SetTable.leap m p.1 p.2)
theorem runS_add (m : Nat) : ∀ (a b : Nat) (p : Nat × Nat), runS m (a + b) p = runS m b (runS m a p)
  | 0, b, p => by rw [Nat.zero_add]; rfl
  | a + 1, b, p => by
    rw [Nat.add_right_comm]
    exact runS_add m a b _
theorem runS_snd (m : Nat) : ∀ (n : Nat) (p : Nat × Nat), (runS m n p).2 = p.2 / 32 ^ n
  | 0, p => by simp [runS]
  | n + 1, p => by
    unfold runS
    rw [runS_snd m n]
    show p.2 / 32 / 32 ^ n = _
    rw [Nat.div_div_eq_div_mul, Nat.pow_succ, Nat.mul_comm]
def lcg (m : Nat) : Nat → Nat → Nat
  | 0, i => i
  | n + 1, i => lcg m n ((i * 5 + 1) % (m + 1))
theorem runS_zero (m : Nat) : ∀ (n i : Nat), runS m n (i, 0) = (lcg m n i, 0)
  | 0, i => rfl
  | n + 1, i => by
    show runS m n ((i * 5 + 1 + 0 / 32) % (m + 1), 0 / 32) = _
    rw [Nat.zero_div, Nat.add_zero, runS_zero m n]
    rfl
def meetsAll (m : Nat) : Bool := (List.range (m + 1)).all fun i => (List.range (m + 1)).all fun j => (List.range (m + 1)).any fun n => lcg m n i == j
theorem meets_7 : meetsAll 7 = true := by decide +kernel
theorem meets_15 : meetsAll 15 = true := by decide +kernel
/-- a rising bound is enough: the start 0 meets all -/
def meets0 (m : Nat) : Bool := (List.range (m + 1)).all fun j => (List.range (m + 1)).any fun n => lcg m n 0 == j
theorem meets0_31 : meets0 31 = true := by decide +kernel
theorem meets0_63 : meets0 63 = true := by decide +kernel
theorem meets0_127 : meets0 127 = true := by decide +kernel
theorem meets0_7 : meets0 7 = true := by decide +kernel
theorem meets0_15 : meets0 15 = true := by decide +kernel
theorem back0 : lcg 7 8 0 = 0 ∧ lcg 15 16 0 = 0 ∧ lcg 31 32 0 = 0 ∧ lcg 63 64 0 = 0 ∧ lcg 127 128 0 = 0 := by decide +kernel
theorem lcg_add (m : Nat) : ∀ (a b i : Nat), lcg m (a + b) i = lcg m b (lcg m a i)
  | 0, b, i => by rw [Nat.zero_add]; rfl
  | a + 1, b, i => by
    rw [Nat.add_right_comm]
    exact lcg_add m a b _
theorem good0 {m : Nat} (h : GoodM m) : meets0 m = true ∧ lcg m (m + 1) 0 = 0 := by
  have := back0
  rcases h with rfl | rfl | rfl | rfl | rfl
  · exact ⟨meets0_7, this.1⟩
  · exact ⟨meets0_15, this.2.1⟩
  · exact ⟨meets0_31, this.2.2.1⟩
  · exact ⟨meets0_63, this.2.2.2.1⟩
  · exact ⟨meets0_127, this.2.2.2.2⟩
theorem lcg_meets {m : Nat} (h : GoodM m) {i j : Nat} (hi : i ≤ m) (hj : j ≤ m) : ∃ n, n ≤ m ∧ lcg m n i = j := by
  obtain ⟨h0, hb⟩ := good0 h
  have at0 : ∀ k, k ≤ m → ∃ n, n ≤ m ∧ lcg m n 0 = k := fun k hk => by
    have := List.all_eq_true.mp h0 k (List.mem_range.mpr (by omega))
    obtain ⟨n, hn, e⟩ := List.any_eq_true.mp this
    exact ⟨n, by have := List.mem_range.mp hn; omega, by simpa using e⟩
  obtain ⟨a, ha, ea⟩ := at0 i hi
  obtain ⟨b, hb2, eb⟩ := at0 j hj
  by_cases hle : a ≤ b
  · refine ⟨b - a, by omega, ?_⟩
    rw [← ea, ← lcg_add, show a + (b - a) = b from by omega]
    exact eb
  · refine ⟨m + 1 - a + b, by omega, ?_⟩
    rw [← ea, ← lcg_add, show a + (m + 1 - a + b) = m + 1 + b from by omega, lcg_add, hb]
    exact eb
theorem leap_lt (m i b : Nat) : (SetTable.leap m i b).1 ≤ m := by
  show (i * 5 + 1 + b / 32) % (m + 1) ≤ m
  exact Nat.le_of_lt_succ (Nat.mod_lt (i * 5 + 1 + b / 32) (Nat.succ_pos m))
theorem runS_le (m : Nat) : ∀ (n : Nat) (p : Nat × Nat), p.1 ≤ m → (runS m n p).1 ≤ m
  | 0, _, h => h
  | n + 1, p, _ => runS_le m n _ (leap_lt m p.1 p.2)
theorem runS_meets {m : Nat} (h : GoodM m) {p : Nat × Nat} (hp : p.1 ≤ m) (hb : p.2 < 2 ^ 64) {j : Nat} (hj : j ≤ m) : ∃ n, n < m + 14 ∧ (runS m n p).1 = j := by
  have h13 : (runS m 13 p).2 = 0 := by
    rw [runS_snd]
    exact Nat.div_eq_of_lt (Nat.lt_of_lt_of_le hb (by decide))
  have e : runS m 13 p = ((runS m 13 p).1, 0) := Prod.ext rfl h13
  obtain ⟨n, hn, en⟩ := lcg_meets h (runS_le m 13 p hp) hj
  refine ⟨13 + n, by omega, ?_⟩
  rw [runS_add, e, runS_zero]
  exact en
abbrev freeAt (ow : Array (Option Nat)) (j : Nat) : Bool := (ow.getD j (some 0)).isNone
theorem free_none (m : Nat) (ow : Array (Option Nat)) : ∀ (f : Nat) (p : Nat × Nat), SetTable.layClean.free m ow f p.1 p.2 = none → ∀ n, n < f → freeAt ow (runS m n p).1 = false
  | 0, _, _, n, hn => absurd hn (Nat.not_lt_zero n)
  | f + 1, p, h, n, hn => by
    unfold SetTable.layClean.free at h
    split at h
    · cases h
    · rename_i h2
      rw [List.find?_eq_none] at h2
      cases n with
      | zero =>
        have := h2 0 (List.mem_range.mpr (by have : SetTable.runEnd m p.1 ≥ p.1 := by { unfold SetTable.runEnd; split <;> omega }; omega))
        rw [Nat.add_zero] at this
        show (ow.getD p.1 (some 0)).isNone = false
        cases e : (ow.getD p.1 (some 0)).isNone with
        | false => rfl
        | true => exact absurd e this
      | succ n => exact free_none m ow f (SetTable.leap m p.1 p.2) h n (by omega)
theorem free_some (m : Nat) (ow : Array (Option Nat)) : ∀ (f : Nat) (i b j : Nat), SetTable.layClean.free m ow f i b = some j → freeAt ow j = true
  | 0, _, _, _, h => by cases h
  | f + 1, i, b, j, h => by
    unfold SetTable.layClean.free at h
    split at h
    · rename_i k h2
      cases h
      have := List.find?_some h2
      exact this
    · exact free_some m ow f _ _ j h
theorem bits_small (h : Int) : SetTable.bits h < 2 ^ 64 := by
  unfold SetTable.bits
  have h1 := Int.emod_lt_of_pos h (show (0 : Int) < 2 ^ 64 by decide)
  have h2 := Int.emod_nonneg h (show (2 ^ 64 : Int) ≠ 0 by decide)
  omega
/-- the owners so far: k slots are taken, by the numbers below k, each once -/
structure Ownd (m k : Nat) (ow : Array (Option Nat)) : Prop where
  sz : ow.size = m + 1
  pm : (ow.toList.filterMap id).Perm (List.range k)
theorem ownd_zero (m : Nat) : Ownd m 0 (Array.replicate (m + 1) none) := by
  refine ⟨by simp, ?_⟩
  simp
theorem ownd_free {m k : Nat} {ow : Array (Option Nat)} (h : Ownd m k ow) (hk : k ≤ m) : ∃ j, j ≤ m ∧ freeAt ow j = true := by
  refine Classical.byContradiction fun hn => ?_
  have all : ∀ x ∈ ow.toList, x.isSome = true := by
    intro x hx
    obtain ⟨j, hj, e⟩ := List.mem_iff_getElem.mp hx
    have hj2 : j < ow.size := by simpa using hj
    cases hx2 : x with
    | some y => rfl
    | none =>
      refine absurd ⟨j, by have := h.sz; omega, ?_⟩ hn
      have e2 : ow[j] = none := by rw [← hx2, ← e]; simp
      simp [freeAt, Array.getD, hj2, e2]
  have hl : (ow.toList.filterMap id).length = m + 1 := by
    rw [List.length_filterMap_eq_countP]
    have : List.countP (fun a => (id a : Option Nat).isSome) ow.toList = ow.toList.length := List.countP_eq_length.mpr all
    rw [this, Array.length_toList, h.sz]
  have := h.pm.length_eq
  rw [hl, List.length_range] at this
  omega
theorem ownd_set {m k j : Nat} {ow : Array (Option Nat)} (h : Ownd m k ow) (hf : freeAt ow j = true) : Ownd m (k + 1) (ow.setIfInBounds j (some k)) := by
  have hj : j < ow.size := by
    refine Classical.byContradiction fun hn => ?_
    simp [freeAt, Array.getD, hn] at hf
  have e : ow[j] = none := by
    simp [freeAt, Array.getD, hj] at hf
    exact hf
  refine ⟨by simp [h.sz], ?_⟩
  have e1 : ow.toList = ow.toList.take j ++ none :: ow.toList.drop (j + 1) := by
    have hj2 : j < ow.toList.length := by simpa using hj
    have e3 : ow.toList[j] = none := by simpa using e
    rw [← e3, List.getElem_cons_drop, List.take_append_drop]
  have e2 : (ow.setIfInBounds j (some k)).toList = ow.toList.take j ++ some k :: ow.toList.drop (j + 1) := by
    rw [Array.toList_setIfInBounds, List.set_eq_take_append_cons_drop]
    rw [if_pos (by simpa using hj)]
  have pm := h.pm
  rw [e1] at pm
  rw [e2]
  simp only [List.filterMap_append, List.filterMap_cons, id] at pm ⊢
  rw [List.range_succ]
  exact (List.perm_middle).trans ((List.Perm.cons k pm).trans (List.perm_append_singleton k _).symm)
def layStep (m : Nat) (acc : Option (Array (Option Nat) × Nat)) (h : Int) : Option (Array (Option Nat) × Nat) := do
  let (owner, k) ← acc
  let j ← SetTable.layClean.free m owner (SetTable.turns m) (SetTable.bits h % (m + 1)) (SetTable.bits h)
  pure (owner.setIfInBounds j (some k), k + 1)
theorem lay_fold {m : Nat} (hm : GoodM m) : ∀ (hs : List Int) (k : Nat) (ow : Array (Option Nat)), Ownd m k ow → k + hs.length ≤ m + 1 → ∃ ow', hs.foldl (layStep m) (some (ow, k)) = some (ow', k + hs.length) ∧ Ownd m (k + hs.length) ow'
  | [], k, ow, o, _ => ⟨ow, rfl, o⟩
  | h :: r, k, ow, o, hk => by
    rw [List.length_cons] at hk
    obtain ⟨j, hj, fj⟩ := ownd_free o (by omega)
    obtain ⟨n, hn, en⟩ := runS_meets hm (p := (SetTable.bits h % (m + 1), SetTable.bits h)) (Nat.le_of_lt_succ (Nat.mod_lt (SetTable.bits h) (Nat.succ_pos m))) (bits_small h) hj
    cases e : SetTable.layClean.free m ow (SetTable.turns m) (SetTable.bits h % (m + 1)) (SetTable.bits h) with
    | none =>
      have := free_none m ow _ (SetTable.bits h % (m + 1), SetTable.bits h) e n (by unfold SetTable.turns; omega)
      rw [en, fj] at this
      cases this
    | some i =>
      obtain ⟨ow', e1, o1⟩ := lay_fold hm r (k + 1) _ (ownd_set o (free_some m ow _ _ _ _ e)) (by omega)
      refine ⟨ow', ?_, by rw [List.length_cons, show k + (r.length + 1) = k + 1 + r.length from by omega]; exact o1⟩
      rw [List.foldl_cons, show layStep m (some (ow, k)) h = some (ow.setIfInBounds i (some k), k + 1) from by unfold layStep; simp [e], e1, List.length_cons]
      rw [show k + (r.length + 1) = k + 1 + r.length from by omega]
theorem layClean_good {m : Nat} (hm : GoodM m) (hs : Array Int) (hn : hs.size ≤ m + 1) : ∃ ow, SetTable.layClean m hs = some ow ∧ Ownd m hs.size ow := by
  obtain ⟨ow, e, o⟩ := lay_fold hm hs.toList 0 _ (ownd_zero m) (by rw [Array.length_toList]; omega)
  rw [Array.length_toList, Nat.zero_add] at e o
  refine ⟨ow, ?_, o⟩
  have : SetTable.layClean m hs = (hs.toList.foldl (layStep m) (some (Array.replicate (m + 1) none, 0))).map (·.1) := by
    unfold SetTable.layClean
    rw [← Array.foldl_toList]
    rfl
  rw [this, e]
  rfl
end DL

/-! D19: sets of keys (ints and texts): what stands there, one key more. -/
namespace DL
open PySem PySem.Spec PyProof.Rows L2
/-- the key of an entry -/
def eKey (e : Int × Value) : Key := match e.2 with
  | .int k _ => .inl k
  | .str x _ => .inr x
  | _ => .inl 0
def EKey (w : World) (e : Int × Value) : Prop := keyIs (eKey e) e.2 = true ∧ e.1 = keyH w (eKey e)
theorem ekey_of {w : World} {k : Key} {v : Value} (h : keyIs k v = true) : eKey (keyH w k, v) = k := by
  rcases keyIs_shape h with ⟨i, t, rfl, rfl⟩ | ⟨x, t, rfl, rfl⟩ <;> rfl
theorem ekey_mk {w : World} {k : Key} {v : Value} (h : keyIs k v = true) : EKey w (keyH w k, v) := by
  unfold EKey
  rw [ekey_of h]
  exact ⟨h, rfl⟩
theorem key_scans {k : Key} {v : Value} (h : keyIs k v = true) : v.scannable = true := by
  rcases keyIs_shape h with ⟨i, t, rfl, rfl⟩ | ⟨x, t, rfl, rfl⟩ <;> rfl
theorem ekey_is {w : World} {e : Int × Value} (g : EKey w e) {k : Key} : keyIs k e.2 = true ↔ eKey e = k := by
  constructor
  · intro h
    rcases keyIs_shape h with ⟨i, t, rfl, e2⟩ | ⟨x, t, rfl, e2⟩ <;> (unfold eKey; rw [e2])
  · intro h
    rw [← h]
    exact g.1
theorem ekeys_elems {P : Program} {w : World} {l : List (Int × Value)} (g : ∀ e ∈ l, EKey w e) : ElemsOf (mixKind P w) l := fun e he => ⟨⟨eKey e, (g e he).1, (g e he).2⟩, key_scans (g e he).1⟩
/-- the table can be walked -/
structure TbOk (w : World) (t : SetTable) (n : Nat) : Prop where
  fits : t.fits n = true
  ris : Ris t.place.toList
  led : w.params.followText "set-order" = true ∨ t.led = true
theorem TbOk.plainOff {w : World} {t : SetTable} {n : Nat} (h : TbOk w t n) : TbOk w { t with plain := false } n := ⟨SetTable.fits_plain_off h.fits, h.ris, h.led⟩
structure EsOk (w : World) (es : Array (Int × Value)) (ks : List Key) : Prop where
  each : ∀ e ∈ es.toList, EKey w e
  pm : (es.toList.map eKey).Perm ks
  nd : ks.Nodup
  few : ks.length < 4000
theorem EsOk.size {w : World} {es : Array (Int × Value)} {ks : List Key} (h : EsOk w es ks) : es.size = ks.length := by
  rw [← Array.length_toList, ← List.length_map (f := eKey), h.pm.length_eq]
theorem EsOk.bound {w : World} {es : Array (Int × Value)} {ks : List Key} (h : EsOk w es ks) : es.size < scanBound := by
  rw [h.size]
  exact Nat.lt_trans h.few (by decide)
theorem EsOk.perm {w : World} {es es' : Array (Int × Value)} {ks : List Key} (h : EsOk w es ks) (p : es'.toList.Perm es.toList) : EsOk w es' ks := ⟨fun e he => h.each e (p.mem_iff.mp he), (p.map eKey).trans h.pm, h.nd, h.few⟩
/-- the set of the keys ks at a -/
def KSt (w : World) (h : Heap) (a : Addr) (ks : List Key) : Prop := ∃ o es ep t, h.get? a = some o ∧ o.ExactSet ∧ o.data = .set es ep t ∧ EsOk w es ks ∧ TbOk w t es.size
theorem KSt.at {w : World} {h h' : Heap} {a : Addr} {ks : List Key} (R : KSt w h a ks) (k : ∀ o, h.get? a = some o → h'.get? a = some o) : KSt w h' a ks := by
  obtain ⟨o, es, ep, t, ho, r⟩ := R
  exact ⟨o, es, ep, t, k o ho, r⟩
theorem KSt.perm {w : World} {h : Heap} {a : Addr} {ks ms : List Key} (R : KSt w h a ks) (p : ks.Perm ms) : KSt w h a ms := by
  obtain ⟨o, es, ep, t, ho, hx, hd, e, tb⟩ := R
  exact ⟨o, es, ep, t, ho, hx, hd, ⟨e.each, e.pm.trans p, p.nodup_iff.mp e.nd, by rw [← p.length_eq]; exact e.few⟩, tb⟩
theorem KSt.lt {w : World} {h : Heap} {a : Addr} {ks : List Key} (R : KSt w h a ks) : a < h.objs.size := by
  obtain ⟨o, _, _, _, ho, _⟩ := R
  exact Heap.lt_size ho
theorem KSt.ty {w : World} {s : Shared} {a : Addr} {ks : List Key} (R : KSt w s.heap a ks) : s.TypeIs (.ref a) "set" := by
  obtain ⟨o, _, _, _, ho, hx, _⟩ := R
  exact ⟨o, ho, hx.1⟩
open Classical in
noncomputable def addK (ks : List Key) (k : Key) : List Key := if k ∈ ks then ks else k :: ks
theorem mem_addK {ks : List Key} {k j : Key} : j ∈ addK ks k ↔ j = k ∨ j ∈ ks := by
  unfold addK
  by_cases h : k ∈ ks
  · rw [if_pos h]
    exact ⟨.inr, fun z => z.elim (fun e => e ▸ h) id⟩
  · rw [if_neg h, List.mem_cons]
theorem addK_len {ks : List Key} {k : Key} : (addK ks k).length ≤ ks.length + 1 := by
  unfold addK
  split
  · omega
  · simp
section
variable {P : Program} {w : World} {A : Around} {E : Value → Shared → Prop} {s : Shared} {a : Addr}
/-- behind the new entry the table is laid anew where it is too full -/
theorem ks_rest {g : Bool → Sem Unit} (hg : ∀ (b : Bool) (u : Shared) (Q' : Unit → Shared → Prop), Q' () u → wpAny (model P w) A (g b) Q' E u) {o : Obj} {es0 es : Array (Int × Value)} {ep : Nat} {t0 t : SetTable} (hob : s.heap.get? a = some o) (hx : o.ExactSet) (hda : o.data = .set es0 ep t0)
    {ks : List Key} (he : EsOk w es ks) (ht : TbOk w t es.size) {wd : Bool} {R : Option Bool → Shared → Prop} (hR : ∀ h', Heap.SameBut a s.heap h' → KSt w h' a ks → R (some true) { s with heap := h' }) :
    wpAny (model P w) A (do
        storeSet a es t
        if (!wd && t.tooFull) = true then do
            g (relayAll t es (SetTable.grown es.size)).2.2
            storeSet a (relayAll t es (SetTable.grown es.size)).1 (relayAll t es (SetTable.grown es.size)).2.1
            pure (some true)
          else pure (some true)) R E s := by
  refine wpAny_bind (wpAny_storeSet_of hob hda ?_ (fits_of_scanBound he.bound))
  have at1 := store_at (es' := es) (t' := t) hob hda
  have same1 := Heap.SameBut.update s.heap a (Obj.putSet es t)
  split
  · have p := relayAll_perm t es (SetTable.grown es.size)
    have f := relayAll_fits t es (SetTable.grown es.size)
    have r := relayAll_ris t es (SetTable.grown es.size)
    have l := relayAll_led t es (SetTable.grown es.size)
    generalize relayAll t es (SetTable.grown es.size) = Y at p f r l ⊢
    obtain ⟨es2, t2, gv⟩ := Y
    have he2 : EsOk w es2 ks := he.perm p
    refine wpAny_bind (hg _ _ _ (wpAny_bind (wpAny_storeSet_of at1 rfl ?_ (fits_of_scanBound he2.bound))))
    refine wpAny_pure (hR _ (same1.trans (Heap.SameBut.update _ a _)) ⟨_, es2, _, t2, store_at (es' := es2) (t' := t2) at1 rfl, hx, rfl, he2, f, r, ht.led.imp id fun z => by
      show t2.led = true
      have l : t2.led = t.led := l
      rw [l]
      exact z⟩)
  · exact wpAny_pure (hR _ same1 ⟨_, es, _, t, at1, hx, rfl, he, ht⟩)
theorem ks_add {ks : List Key} {k : Key} {v : Value} {Q : Bool → Shared → Prop} (R : KSt w s.heap a ks) (hk : keyIs k v = true) (room : ks.length + 1 < 4000) (q : ∀ b h', Heap.SameBut a s.heap h' → KSt w h' a (addK ks k) → Q b { s with heap := h' }) :
    wpAny (model P w) A (setAddHashed a v (keyH w k)) Q E s := by
  obtain ⟨o, es, ep, t, hob, hx, hda, he, ht⟩ := R
  have sc := key_scans hk
  have el : ElemsOf (mixKind P w) es.toList := ekeys_elems he.each
  unfold setAddHashed setAddHashedIn
  refine wpAny_holding (wpAny_bind (wpAny_setState_of hob hda ht.fits ?_))
  dsimp only
  rw [byScan_of sc he.bound el, if_pos rfl]
  unfold setAddByScan
  refine wpAny_bind (wpAny_bind (wpAny_rule (wpAny_bind (wpAny_setScan_of (knd := mixKind P w) (k := k) hk hob hda ht.fits el ?_))))
  cases hf : List.findIdx? (fun e => (mixKind P w).is k e.2) es.toList with
  | some j =>
    dsimp only
    obtain ⟨hj, pj, -⟩ := List.findIdx?_eq_some_iff_getElem.mp hf
    have hin : k ∈ ks := by
      rw [← he.pm.mem_iff]
      exact List.mem_map.mpr ⟨_, List.getElem_mem hj, (ekey_is (he.each _ (List.getElem_mem hj))).mp pj⟩
    refine wpAny_pure (wpAny_pure (q false s.heap (Heap.SameBut.refl a s.heap) ?_))
    unfold addK
    rw [if_pos hin]
    exact ⟨o, es, ep, t, hob, hx, hda, he, ht⟩
  | none =>
    dsimp only
    have hnot : k ∉ ks := fun z => by
      rw [← he.pm.mem_iff] at z
      obtain ⟨e, hm, hq⟩ := List.mem_map.mp z
      have := List.findIdx?_eq_none_iff.mp hf e hm
      rw [show (mixKind P w).is k e.2 = true from (ekey_is (he.each e hm)).mpr hq] at this
      cases this
    have hadd : addK ks k = k :: ks := if_neg hnot
    rw [hadd] at q
    have gives : ∀ (b : Bool) {u : Shared} {Q' : Unit → Shared → Prop}, Q' () u → wpAny (model P w) A (match b with | true => rule "set.scan.the-table-gave-way" | false => pure ()) Q' E u := fun b u Q' z => by
      cases b
      · exact wpAny_pure z
      · exact wpAny_rule z
    have p := layNew_perm t es (keyH w k) v
    have f := layNew_fits t es (keyH w k) v
    have r := layNew_ris t es (keyH w k) v ht.ris
    have l := layNew_led t es (keyH w k) v
    show wpAny (model P w) A (match layNew t es (keyH w k) v with | (es, t, wasDummy, gave) => _) _ E s
    generalize layNew t es (keyH w k) v = Y at p f r l ⊢
    obtain ⟨es1, t1, wd, gv⟩ := Y
    dsimp only at p f r l ⊢
    rw [Array.toList_push] at p
    have pc : es1.toList.Perm ((keyH w k, v) :: es.toList) := p.trans (List.perm_append_singleton _ _)
    have he1 : EsOk w es1 (k :: ks) := ⟨fun e hm => by
      rcases List.mem_cons.mp (pc.mem_iff.mp hm) with z | z
      · rw [z]; exact ekey_mk hk
      · exact he.each e z, by
      have := pc.map eKey
      rw [List.map_cons, ekey_of hk] at this
      exact this.trans (List.Perm.cons k he.pm), List.nodup_cons.mpr ⟨hnot, he.nd⟩, by rw [List.length_cons]; exact room⟩
    have ht1 : TbOk w t1 es1.size := ⟨f, r, ht.led.imp id fun z => by rw [l]; exact z⟩
    refine wpAny_bind (gives _ ?_)
    have hg : ∀ (b : Bool) (u : Shared) (Q' : Unit → Shared → Prop), Q' () u → wpAny (model P w) A (match b with | true => rule "set.scan.the-table-gave-way" | false => pure ()) Q' E u := fun b u Q' z => gives b z
    split
    · refine wpAny_bind ?_
      rw [hashByValue_scannable 8 sc]
      refine wpAny_pure ?_
      refine ks_rest (wd := wd) hg hob hx hda he1 (t := if plainKind v = true then t1 else { t1 with plain := false }) ?_ ?_
      · split
        · exact ht1
        · exact ht1.plainOff
      · intro h' sb r
        dsimp only
        exact wpAny_pure (q true h' sb r)
    · refine wpAny_bind (wpAny_pure ?_)
      rw [if_pos rfl]
      refine ks_rest (wd := wd) hg hob hx hda he1 ht1 ?_
      intro h' sb r
      dsimp only
      exact wpAny_pure (q true h' sb r)
/-- all members, from the first i items -/
def GotK (ks : List Key) (i : Nat) (ms : List Key) : Prop := (∀ j, j ∈ ms ↔ j ∈ ks.take i) ∧ ms.length ≤ i
theorem ks_loop {I : Addr} {fp wr : List Addr} {G : Array GenState → Array GenState → Prop} {n : Nat} {Pv : Nat → Value → Prop} {St : Nat → Shared → Prop} {R : Result → Shared → Prop}
    (W : WalksS P w A.in1 I fp wr G n Pv St) (S : Addr) (hS : S ∉ fp) (ks : List Key) (hn : n = ks.length) (hb : ks.length + 1 < 4000) (hv : ∀ i v, Pv i v → ∃ k, ks[i]? = some k ∧ keyIs k v = true) :
    ∀ (r i : Nat) (s : Shared) (ms : List Key), n - i = r → i ≤ n → St i s → KSt w s.heap S ms → GotK ks i ms →
      (∀ s' ms', Moved (S :: wr) G s s' → KSt w s'.heap S ms' → GotK ks n ms' → R (.ok (.ret .none)) s') →
      codeAny (model P w) A (.builtin "set.update.loop" ⟨[.ref S, .ref I], []⟩) R s := by
  have hSw : S ∉ wr := fun z => hS (W.sub _ z)
  have up : ∀ b ∈ wr, b ∈ S :: wr := fun b z => List.mem_cons_of_mem _ z
  intro r
  induction r with
  | zero =>
    intro i s ms hr hi st kst got fin
    obtain rfl : i = n := by omega
    refine codeAny_builtin F.entry_set_update_loop ?_
    rw [Around.under_plainId F.plain_set_update_loop _]
    show wpAny _ A.in1 (pyNext (.ref I) >>= _) _ _ s
    refine wpAny_bind (W.done s _ _ st fun s' mv => ?_)
    show wpAny _ A.in1 (ret Value.none) _ _ s'
    exact wpAny_pure (fin s' ms (mv.mono up) (kst.at fun o e => mv.heap S o hSw e) got)
  | succ r ih =>
    intro i s ms hr hi st kst got fin
    have hlt : i < n := by omega
    refine codeAny_builtin F.entry_set_update_loop ?_
    rw [Around.under_plainId F.plain_set_update_loop _]
    show wpAny _ A.in1 (pyNext (.ref I) >>= _) _ _ s
    refine wpAny_bind (W.item i s _ _ hlt st fun v s' hP st' mv => ?_)
    obtain ⟨k, hk, kv⟩ := hv i v hP
    have kst' : KSt w s'.heap S ms := kst.at fun o e => mv.heap S o hSw e
    show wpAny _ A.in1 (holding [v] (setAdd S v) >>= _) _ _ s'
    refine wpAny_bind (wpAny_holding ?_)
    unfold setAdd
    refine wpAny_holding (wpAny_bind ((mixKind P w).pyHash (k := k) kv ?_))
    refine ks_add (s := { s' with toks := s'.toks + 1 }) kst' kv (by have := got.2; omega) fun b h' sb kst2 => ?_
    have got2 : GotK ks (i + 1) (addK ms k) := by
      refine ⟨fun j => ?_, Nat.le_trans addK_len (by have := got.2; omega)⟩
      rw [mem_addK, got.1 j, List.take_add_one, hk, List.mem_append]
      simp [or_comm]
    refine wpAny_pure ⟨plainId_quiet F.plain_set_update_loop _, ih (i + 1) _ _ (by omega) hlt (W.frame _ s' _ _ st' (Nat.le_succ _) fun b hb o e => ?_) kst2 got2 fun s'' ms' mv' kst3 got3 => ?_⟩
    · rw [sb.2 b (fun z : b = S => hS (by rw [← z]; exact hb))]
      exact e
    · refine fin s'' ms' (Moved.trans W.gtrans ((mv.mono up).then_heap (Nat.le_succ _) fun b o hb e => ?_) mv') kst3 got3
      rw [sb.2 b (fun z : b = S => hb (by rw [z]; exact List.mem_cons_self))]
      exact e
end
end DL

/-! D20: set(xs). -/
namespace DL
open PySem PySem.Spec PyProof.Rows L2
section
variable {P : Program} {w : World} {A : Around} {E : Value → Shared → Prop} {s : Shared} {a : Addr}
/-- a new set's object -/
def setO0 (w : World) : Obj := { cls := .type "set", dict := none, data := .set #[] 0 (.fresh 0 0 (!w.params.followText "set-order")) }
/-- the state with the new set -/
def withSet (w : World) (s : Shared) : Shared := { s with heap := s.heap.push (setO0 w) }
theorem kst_new {h : Heap} (ho : h.get? a = some (setO0 w)) : KSt w h a [] :=
  ⟨_, #[], 0, _, ho, ⟨rfl, rfl, rfl⟩, rfl, ⟨fun e he => by simp at he, by simp, List.nodup_nil, by simp⟩, rfl, List.Pairwise.nil, by
    show _ ∨ (!w.params.followText "set-order") = true
    cases w.params.followText "set-order"
    · exact .inr rfl
    · exact .inl rfl⟩
set_option maxHeartbeats 3200000 in
theorem set_call {T : String} {l : Addr} {P3 : Shared → Prop} {Q : Value → Shared → Prop} (hT : s.TypeIs (.ref l) T) (hs1 : isSubtype (.type T) (.type "set") = pure false) (hs2 : isSubtype (.type T) (.type "frozenset") = pure false) (hne : (Value.type T == Value.type "dict") = false)
    (run : ∀ (A' : Around) (Q' : Shared → Prop), (A.handled = none → A'.handled = none) → A'.units ≤ A.units + 8 → (∀ s3, P3 s3 → Q' s3) → wpAny (model P w) A' (pyIter (.ref l)) (fun it s' => wpAny (model P w) A' (runValue (.builtin "set.update.loop" ⟨[.ref s.heap.objs.size, it], []⟩)) (fun _ s3 => Q' s3) E s') E (withSet w s))
    (h : ∀ s3, P3 s3 → Q (.ref s.heap.objs.size) s3) : wpAny (model P w) A (call (.type "set") [.ref l]) Q E s := by
  obtain ⟨c, tl, hmro⟩ := F.called_set.mro
  have m1 := F.called_set.made
  have m2 := F.called_set.sub
  refine wpAny_call (codeAny_of_tree ?_)
  show wpAny _ _ (callAny (.type "set") _) _ _ _
  refine wpAny_pure ⟨Code.quiet_builtin _ (by decide +kernel), codeAny_builtin F.entry_type_call ?_⟩
  rw [Around.under_plain (weight_type_call_type "set" [.ref l] []) rfl]
  have m3 := F.called_set.notType
  have m4 := F.called_set.canCreate
  have m5 := F.typeCall_set_1 (.ref l)
  repeat (any_goals (first | assumption | wp_step))
  refine codeAny_mono (code_set_led1 (P := P) (w := w) (.ref l) (E := E) (Q₁ := fun ob u => ob = .ref s.heap.objs.size ∧ u = withSet w s) ⟨rfl, rfl⟩) fun r u hr => ?_
  cases r with
  | error e => exact hr
  | ok fl =>
    cases fl with
    | ret ob =>
      obtain ⟨rfl, rfl⟩ := hr
      have at0 : (withSet w s).heap.get? s.heap.objs.size = some (setO0 w) := Heap.get?_push_size _ rfl
      have ty0 : (withSet w s).TypeIs (.ref s.heap.objs.size) "set" := ⟨_, at0, rfl⟩
      have i1 := F.called_set.init.lookup
      have i2 := F.called_set.init.bind (.ref s.heap.objs.size)
      repeat (any_goals (first | assumption | wp_step))
      refine codeAny_mono (codeAny_call_builtin (R := wants (fun r u => r = .none ∧ P3 u) E) F.called_set.init.plain F.entry_set_init (check_set_init_1 ty0 ?_)) fun r2 u2 hr2 => ?_
      · obtain ⟨ol, hol, hcl⟩ := hT
        have tl : (withSet w s).TypeIs (.ref l) T := ⟨ol, Heap.get?_push_of_some _ hol, hcl⟩
        unfold Builtin.«set.__init__» noKeywords Builtin.Frozenset.updateFrom
        have e0 : (withSet w s).heap.get? s.heap.objs.size = some { cls := .type "set", dict := none, data := .set #[] 0 (.fresh 0 0 (!w.params.followText "set-order")) } := at0
        generalize hW : withSet w s = W at *
        generalize hPI : pyIter = PI
        wp_walk
        subst hPI
        subst hW
        refine wpAny_mono (run A.in1.in1 (fun s3 => P3 s3) (fun z => by simp [z]) (by show A.units + 1 + 1 ≤ _; omega) fun s3 z => z) (fun it s' hi => wpAny_bind (wpAny_mono hi (fun _ s3 z => wpAny_pure ?_) fun _ _ z => z)) fun _ _ z => z
        exact wpAny_pure ⟨rfl, z⟩
      · cases r2 with
        | error e => exact hr2
        | ok f2 =>
          cases f2 with
          | ret r =>
            obtain ⟨rfl, p3⟩ := hr2
            repeat (any_goals (first | assumption | wp_step))
            exact h _ p3
          | _ => exact hr2.elim
    | _ => exact hr.elim
/-- set(xs) of a list or tuple whose items are the keys ks -/
theorem set_callK {l : Addr} {items : Array Value} {ks : List Key} {Q : Value → Shared → Prop} (b : Bool) (hl : SO b s.heap l items) (hh : A.handled = none) (hv : ∀ (i : Nat) (v : Value), items[i]? = some v → ∃ k, ks[i]? = some k ∧ keyIs k v = true) (hn : items.size = ks.length) (hb : ks.length + 1 < 4000)
    (h : ∀ (h' : Heap) (tk : Nat) (ms : List Key), KSt w h' s.heap.objs.size ms → (∀ k, k ∈ ms ↔ k ∈ ks) → (∀ b o, s.heap.get? b = some o → h'.get? b = some o) → Q (.ref s.heap.objs.size) { s with heap := h', toks := tk }) :
    wpAny (model P w) A (call (.type "set") [.ref l]) Q E s := by
  have hl1 : SO b (withSet w s).heap l items := by
    cases b
    · exact Heap.IsTuple.push hl _
    · exact Heap.IsList.push hl _
  have hlt : l < s.heap.objs.size := by
    cases b
    · obtain ⟨o, ho, _⟩ := (show s.heap.IsTuple l items from hl)
      exact Heap.lt_size ho
    · obtain ⟨o, ho, _⟩ := (show s.heap.IsList l items from hl)
      exact Heap.lt_size ho
  have hz : (withSet w s).heap.objs.size = s.heap.objs.size + 1 := Heap.size_push ..
  have hneI : l ≠ (withSet w s).heap.objs.size := by rw [hz]; exact Nat.ne_of_lt (Nat.lt_succ_of_lt hlt)
  have hSf : s.heap.objs.size ∉ [(withSet w s).heap.objs.size, l] := by
    rw [hz]
    simp only [List.mem_cons, List.not_mem_nil, or_false, not_or]
    exact ⟨Nat.ne_of_lt (Nat.lt_succ_self _), Nat.ne_of_gt hlt⟩
  have key : ∀ (it : Obj) (s2 : Shared) (A' : Around) (Q' : Shared → Prop) {fp wr : List Addr} {St : Nat → Heap → Prop}, A'.handled = none → s2 = { withSet w s with heap := (withSet w s).heap.push it } → fp = [(withSet w s).heap.objs.size, l] → wr = [(withSet w s).heap.objs.size] →
      Walks P w A'.in1 (withSet w s).heap.objs.size fp wr items.size (fun i v => items[i]? = some v) St → St 0 s2.heap → (∀ s3, (∃ h' tk ms, s3 = { s with heap := h', toks := tk } ∧ KSt w h' s.heap.objs.size ms ∧ (∀ k, k ∈ ms ↔ k ∈ ks) ∧ ∀ b o, s.heap.get? b = some o → h'.get? b = some o) → Q' s3) →
      wpAny (model P w) A' (runValue (.builtin "set.update.loop" ⟨[.ref s.heap.objs.size, .ref (withSet w s).heap.objs.size], []⟩)) (fun _ s3 => Q' s3) E s2 := by
    intro it s2 A' Q' fp wr St hh' e2 ef ew W st q
    subst e2 ef ew
    refine wpAny_runValue ?_
    have at0 : ((withSet w s).heap.push it).get? s.heap.objs.size = some (setO0 w) := Heap.get?_push_of_some _ (Heap.get?_push_size _ rfl)
    refine ks_loop (A := A') W.toS s.heap.objs.size hSf ks hn hb hv (items.size - 0) 0 _ [] rfl (Nat.zero_le _) st (kst_new at0) ⟨by simp, by simp⟩ fun s' ms mv kst got => ?_
    obtain ⟨h', g, d, tk, os⟩ := s'
    have e1 : g = s.gens := mv.gens
    have e2 : d = s.drawn := mv.drawn
    have e3 : os = s.os := mv.os
    subst e1 e2 e3
    refine q _ ⟨h', tk, ms, rfl, kst, fun k => ?_, fun b o e => ?_⟩
    · rw [got.1 k, List.take_of_length_le (by omega)]
    · have hb0 : b < s.heap.objs.size := Heap.lt_size e
      refine mv.heap b o ?_ (Heap.get?_push_of_some _ (Heap.get?_push_of_some _ e))
      rw [hz]
      simp only [List.mem_cons, List.not_mem_nil, or_false, not_or]
      exact ⟨Nat.ne_of_lt hb0, Nat.ne_of_lt (Nat.lt_succ_of_lt hb0)⟩
  cases b with
  | true =>
    refine set_call (T := "list") (Heap.IsList.typeIs hl) PySem.F.sub_list_set PySem.F.sub_list_frozenset (by decide) (P3 := fun s3 => ∃ h' tk ms, s3 = { s with heap := h', toks := tk } ∧ KSt w h' s.heap.objs.size ms ∧ (∀ k, k ∈ ms ↔ k ∈ ks) ∧ ∀ b o, s.heap.get? b = some o → h'.get? b = some o) (fun A' Q' h0 _ q => ?_) fun s3 ⟨h', tk, ms, e, a1, a2, a3⟩ => by
        subst e
        exact h h' tk ms a1 a2 a3
    refine wpAny_pyIter_list hl1 ?_
    exact key _ _ A' Q' (h0 hh) rfl rfl rfl (Walks.list (by simp [h0 hh]) _ l hneI items) ⟨⟨_, Heap.get?_push_size _ rfl, rfl, rfl⟩, Heap.IsList.push hl1 _⟩ q
  | false =>
    refine set_call (T := "tuple") (Heap.IsTuple.typeIs hl) F.sub_tuple_set F.sub_tuple_frozenset (by decide) (P3 := fun s3 => ∃ h' tk ms, s3 = { s with heap := h', toks := tk } ∧ KSt w h' s.heap.objs.size ms ∧ (∀ k, k ∈ ms ↔ k ∈ ks) ∧ ∀ b o, s.heap.get? b = some o → h'.get? b = some o) (fun A' Q' h0 _ q => ?_) fun s3 ⟨h', tk, ms, e, a1, a2, a3⟩ => by
        subst e
        exact h h' tk ms a1 a2 a3
    refine wpAny_pyIter_tuple hl1 ?_
    exact key _ _ A' Q' (h0 hh) rfl rfl rfl (Walks.tuple (by simp [h0 hh]) _ l hneI items) ⟨⟨_, Heap.get?_push_size _ rfl, rfl, rfl⟩, Heap.IsTuple.push hl1 _⟩ q
end
end DL

/-! D21: sets of keys as values: set(xs), len, sorted. -/
namespace DL
open PySem PySem.Spec PyProof.Rows L2
def KSO (w : World) (a : Addr) (ks : List Key) : HO := .ext fun h => KSt w h a ks
theorem kso_ok {P : Program} {w : World} {H : Hp} {h : Heap} {a : Addr} {ks : List Key} (R : KSt w h a ks) : ObjOk P w H h a (KSO w a ks) := by
  have ⟨o, _, _, _, ho, _⟩ := R
  exact ⟨R, ⟨o, ho⟩, fun h1 h2 p k => KSt.at p k⟩
section
variable {X : Cx} {Z : Pm} {W : WX} {pins : List (Addr × Obj)} {σ : L2.St} {H : Hp} {s : Shared}
theorem kso_get {a : Addr} {ks : List Key} (I : Inv X pins σ H s) (ha : H a = some (KSO X.w a ks)) : KSt X.w s.heap a ks := (I.hok a _ ha).1
theorem inv_drawn {d : _} (I : Inv X pins σ H s) : Inv X pins σ H { s with drawn := d } := ⟨I.ok, I.os, I.bare, I.base, I.loc, I.cell, I.free, I.freeC, I.pin, I.hok, I.len⟩
/-! ### set(xs) -/
theorem keys_get (P : Program) (w : World) : ∀ {ks : List Key} {us : List Value}, Vals (ks.map kV) us → ∀ (i : Nat) (v : Value), us[i]? = some v → ∃ k, ks[i]? = some k ∧ keyIs k v = true
  | [], _, .nil, i, v, h => by simp at h
  | k :: ks, u :: us, .cons a t, 0, v, h => by
    simp only [List.getElem?_cons_zero, Option.some.injEq] at h
    subst h
    exact ⟨k, rfl, kV_is (P := P) (w := w) a⟩
  | k :: ks, u :: us, .cons a t, i + 1, v, h => by
    rw [List.getElem?_cons_succ] at h
    obtain ⟨k', e, q⟩ := keys_get P w t i v h
    exact ⟨k', by rw [List.getElem?_cons_succ]; exact e, q⟩
def rSetK (K : PySem.W.Frag) (w : World) : List V → Hp → VK → Prop := fun xs H Q => ∃ G x d ds ks, xs = [x] ∧ Same G H ∧ Dr K G x d ∧ seqD d = some ds ∧ keysOf ds = some ks ∧ ks.length < 3000 ∧
  ∀ p ms, H p = none → ms.Nodup → (∀ k, k ∈ ms ↔ k ∈ ks) → Q (.ref p) (upd H p (KSO w p ms))
theorem kst_nd {w : World} {h : Heap} {a : Addr} {ks : List Key} (R : KSt w h a ks) : ks.Nodup := by
  obtain ⟨_, _, _, _, _, _, _, e, _⟩ := R
  exact e.nd
theorem cr_setK (hc : X.calm = true) : CallR X (.type "set") (rSetK X.K X.w) := by
  intro pins s σ H xs us Q I r ⟨G, x, d, ds, ks, ex, g, hd, hs, hk, hl, q⟩
  subst ex
  obtain ⟨u, rfl, ru⟩ := vals1 r
  have hh : X.A.handled = none := I.ok.hd hc
  have ek := keysOf_some hk
  have fin : ∀ {b : Bool} {a : Addr} {its : List Value}, u = .ref a → SO b s.heap a its.toArray → Vals (ks.map kV) its → wpAny (model X.prog X.w) X.A (call (.type "set") [u]) (EP X pins σ Q) X.xe s := by
    intro b a its eu so rv
    subst eu
    have hlen : its.length = ks.length := by rw [← rv.length, List.length_map]
    refine set_callK b so hh (fun i v hv => keys_get X.prog X.w rv i v (by simpa using hv)) (by simpa using hlen) (by omega) fun h' tk ms kst hm hk' => ?_
    exact ⟨.ref _, upd H s.heap.objs.size (KSO X.w s.heap.objs.size ms), I.laid (t' := tk) hk' (Nat.le_refl _) (kso_ok kst), rfl, q _ _ (I.hok.fresh (Nat.le_refl _)) (kst_nd kst) hm⟩
  cases hd with
  | lst h1 h2 =>
    cases hs
    cases ru
    rw [ek] at h2
    obtain ⟨its, rv, pl, hz⟩ := I.list (same_l g h1)
    rw [dr_keys h2] at rv
    exact fin (b := true) rfl pl.isList rv
  | tup h1 h2 =>
    cases hs
    cases ru
    rw [ek] at h2
    obtain ⟨its, rv, pl, hz⟩ := I.tuple (h1.sqT g)
    rw [dr_keys h2] at rv
    exact fin (b := false) rfl (show s.heap.IsTuple _ its.toArray from pl) rv
  | _ => cases hs
/-! ### len -/
theorem cr_lenK : CallR X (.builtin "len") (fun xs H Q => ∃ a ks, xs = [.ref a] ∧ H a = some (KSO X.w a ks) ∧ Q (.int (ks.length : Nat)) H) := by
  intro pins s σ H xs us Q I r ⟨a, ks, ex, ha, q⟩
  subst ex
  obtain ⟨u, rfl, ru⟩ := vals1 r
  cases ru
  obtain ⟨o, es, ep, t, ho, hx, hd, he, ht⟩ := kso_get I ha
  refine call_len_set ho hx hd ht.fits (by rw [he.size]; have := he.few; omega) ?_
  refine ⟨.int (ks.length : Nat), H, I.kept (h' := s.heap) (t' := s.toks + 1 + 1) (fun b u e => e), ⟨_, by rw [he.size]⟩, q⟩
/-! ### sorted -/
section
variable {prog : Program} {w : World} {A : Around} {E : Value → Shared → Prop}
theorem sorted_any {β : Type} {v : Value} {Pu : List Value → List β → Prop} {enc : β → PyData} {R : Value → β → Prop} {Q : Value → Shared → Prop}
    (hcol : ∀ (Q' : List Value → Shared → Prop), (∀ us bs s', Pu us bs → (∀ b o, s.heap.get? b = some o → s'.heap.get? b = some o) → s'.gens = s.gens → s'.os = s.os → Q' us s') → wpAny (model prog w) A.in1 (collect v) Q' E s)
    (e : ∀ us bs, Pu us bs → PySem.W.EachIs R us bs) (er : ∀ us bs (h' : Heap), Pu us bs → (∀ b o, s.heap.get? b = some o → h'.get? b = some o) → ∀ a, (∀ o, s.heap.get? a ≠ some o) → PySem.W.EachIs (fun v b => ∃ as, Reads h' v (enc b) as ∧ a ∉ as) us bs)
    (hal : ∀ us bs, Pu us bs → PySem.W.AllAlike (bs.map enc)) (hk : ∀ us bs, Pu us bs → PySem.W.Sortable (bs.map enc)) (hL : ∀ us bs, Pu us bs → bs.length ≤ sizeLine)
    (hu : ∀ us bs, Pu us bs → ∀ b, b ∈ bs → A.units + 2 + (enc b).depth < cLine)
    (h : ∀ (us out : List Value) (bs : List β) (h0 : Heap) (s' : Shared), Pu us bs → s'.gens = s.gens → s'.os = s.os → (∀ b o, s.heap.get? b = some o → h0.get? b = some o) → (∀ b o, h0.get? b = some o → s'.heap.get? b = some o) → (∃ c, s'.heap.get? h0.objs.size = some (seqObj "list" (List.toArray out) c)) → PySem.W.EachIs R out (bs.mergeSort (PySem.W.dataLe false enc)) → Q (.ref h0.objs.size) s') :
    wpAny (model prog w) A (call (.builtin "sorted") [v]) Q E s := by
  refine Calls.call_function_entry kind_sorted plain_sorted entry_sorted (args_sorted1 _) ?_
  unfold Builtin.«sorted»
  refine wpAny_bind (m := checkCount "sorted" 1 1 _) (wpAny_pure ?_)
  refine wpAny_bind (hcol _ fun us bs s' hP hk' hgens hos => ?_)
  have e := e us bs hP
  have hlen : us.length = bs.length := e.length
  refine wpAny_bind (wpAny_newList ?_ (by rw [hlen]; exact hL us bs hP))
  have ho : (s'.heap.push { cls := .type "list", data := .seq us.toArray }).get? s'.heap.objs.size = some (seqObj "list" us.toArray 0) := Heap.get?_push_size _ rfl
  have kp : ∀ b o, s.heap.get? b = some o → (s'.heap.push { cls := .type "list", data := .seq us.toArray }).get? b = some o := fun b o q => Heap.get?_push_of_some _ (hk' b o q)
  have hg := PySem.W.list_sort_data (prog := prog) (w := w) (A := A.in1) (E := E) (s := { s' with heap := s'.heap.push { cls := .type "list", data := .seq us.toArray } }) (a := s'.heap.objs.size) (n := 0) (Q := fun r s2 => Q (.ref s'.heap.objs.size) s2) ho e (er us bs _ hP kp _ fun o q => absurd (Heap.lt_size (hk' _ _ q)) (Nat.lt_irrefl _)) (hal us bs hP) (hk us bs hP) (hL us bs hP) (fun b hb => by
      have := hu us bs hP b hb
      show A.in1.units + 1 + (enc b).depth < cLine
      have e1 : A.in1.units = A.units + 1 := rfl
      omega) fun out hl eo => ?_
  · refine wpAny_bind (wpAny_holding (wpAny_mono hg (fun _ s' x => wpAny_pure ⟨_, rfl, x⟩) fun _ _ e => e))
  · obtain ⟨c, hc⟩ := sortedHeap_at (vs := us) (out := List.toArray out) ho
    have kq : ∀ b o, s'.heap.get? b = some o → (s'.heap.push { cls := .type "list", data := .seq us.toArray }).get? b = some o := fun b o q => Heap.get?_push_of_some _ q
    exact h us out bs s'.heap _ hP hgens hos hk' (fun b o q => (sortedHeap_old (Nat.ne_of_lt (Heap.lt_size q)) (Heap.lt_size (kq b o q))).trans (kq b o q)) ⟨c, hc⟩ eo
end
theorem keyToks_inj {a b : Key} (h : PySem.W.keyToks (keyD a) = PySem.W.keyToks (keyD b)) : a = b := by
  cases a <;> cases b <;> simp [keyD, PySem.W.keyToks] at h
  · rw [h]
  · rw [PySem.W.str_of_cps (Array.toList_inj.mpr h)]
theorem sortLe_def (a b : PyData) : sortLe a b = !PySem.W.dataLt b a := rfl
theorem sortLe_tr (a b c : PyData) (h1 : sortLe a b = true) (h2 : sortLe b c = true) : sortLe a c = true := by
  rw [sortLe_def, Bool.not_eq_true'] at h1 h2 ⊢
  cases e : PySem.W.dataLt c a with
  | false => rfl
  | true =>
    rcases lex_negTrans (O := itemOrd) _ (PySem.W.keyToks b) _ e with q | q
    · exact absurd (h2.symm.trans q) (by simp)
    · exact absurd (h1.symm.trans q) (by simp)
theorem sortLe_to (a b : PyData) : (sortLe a b || sortLe b a) = true := by
  rw [sortLe_def, sortLe_def, Bool.or_eq_true, Bool.not_eq_true', Bool.not_eq_true']
  cases e : PySem.W.dataLt b a with
  | false => exact .inl rfl
  | true =>
    right
    cases e2 : PySem.W.dataLt a b with
    | false => rfl
    | true =>
      have q := lex_trans (O := itemOrd) _ _ _ e e2
      rw [lex_irrefl] at q
      cases q
theorem sortLe_ant {a b : PyData} (h1 : sortLe a b = true) (h2 : sortLe b a = true) : PySem.W.keyToks a = PySem.W.keyToks b := by
  rw [sortLe_def, Bool.not_eq_true'] at h1 h2
  exact lex_total (O := itemOrd) _ _ h2 h1
theorem sort_perm {ds es : List PyData} (p : ds.Perm es) (inj : ∀ a ∈ es, ∀ b ∈ es, PySem.W.keyToks a = PySem.W.keyToks b → a = b) : ds.mergeSort sortLe = es.mergeSort sortLe := by
  have p2 : (ds.mergeSort sortLe).Perm (es.mergeSort sortLe) := (List.mergeSort_perm _ _).trans (p.trans (List.mergeSort_perm _ _).symm)
  refine List.Perm.eq_of_pairwise (le := fun a b => sortLe a b = true) (fun a b ha hb x y => ?_) (List.pairwise_mergeSort sortLe_tr sortLe_to _) (List.pairwise_mergeSort sortLe_tr sortLe_to _) p2
  exact inj a ((List.mergeSort_perm _ _).mem_iff.mp (p2.mem_iff.mp ha)) b ((List.mergeSort_perm _ _).mem_iff.mp hb) (sortLe_ant x y)
theorem vals_keys : ∀ {us : List Value} {ks : List Key}, PySem.W.EachIs (fun v k => keyIs k v = true) us ks → Vals (ks.map kV) us
  | _, _, .nil => .nil
  | _, _, .cons a t => .cons (by
    rcases keyIs_shape a with ⟨i, tk, rfl, rfl⟩ | ⟨x, tk, rfl, rfl⟩
    · exact ⟨tk, rfl⟩
    · exact ⟨tk, rfl⟩) (vals_keys t)
theorem each_keyV : ∀ {es : List (Int × Value)}, (∀ e ∈ es, EKey X.w e) → PySem.W.EachIs (fun v k => keyIs k v = true) (es.map (·.2)) (es.map eKey)
  | [], _ => .nil
  | e :: r, h => .cons (h e List.mem_cons_self).1 (each_keyV fun x hx => h x (List.mem_cons_of_mem _ hx))
theorem key_reads {h : Heap} {v : Value} {k : Key} (q : keyIs k v = true) : Reads h v (keyD k) [] := by
  rcases keyIs_shape q with ⟨i, t, rfl, rfl⟩ | ⟨x, t, rfl, rfl⟩
  · exact .int _ _
  · exact .str _ _
theorem each_perm {α β : Type} {R : α → β → Prop} : ∀ {us us' : List α}, us'.Perm us → ∀ {bs : List β}, PySem.W.EachIs R us bs → ∃ bs', bs'.Perm bs ∧ PySem.W.EachIs R us' bs' := by
  intro us us' p
  induction p with
  | nil => exact fun h => ⟨_, List.Perm.refl _, h⟩
  | cons x _ ih =>
    intro bs h
    cases h with
    | cons a t =>
      obtain ⟨b2, p2, e2⟩ := ih t
      exact ⟨_, List.Perm.cons _ p2, .cons a e2⟩
  | swap x y l =>
    intro bs h
    cases h with
    | cons a t =>
      cases t with
      | cons b t => exact ⟨_, List.Perm.swap _ _ _, .cons b (.cons a t)⟩
  | trans _ _ ih1 ih2 =>
    intro bs h
    obtain ⟨b2, p2, e2⟩ := ih2 h
    obtain ⟨b3, p3, e3⟩ := ih1 e2
    exact ⟨b3, p3.trans p2, e3⟩
theorem cr_sortK (hc : X.calm = true) (hu : X.A.units + 80 < cLine) : CallR X (.builtin "sorted") (fun xs H Q => ∃ a ks z G, xs = [.ref a] ∧ H a = some (KSO X.w a ks) ∧ sortL (ks.map keyD) = some z ∧ Same G H ∧ ∀ v H', Same H H' → Dr X.K (grow G H H') v z → Q v H') := by
  intro pins s σ H xs us Q I r ⟨a, ks, z, G, ex, ha, hz, g, q⟩
  subst ex
  obtain ⟨u, rfl, ru⟩ := vals1 r
  cases ru
  obtain ⟨o, es, ep, t, ho, hx, hd, he, ht⟩ := kso_get I ha
  obtain ⟨⟨ok, hl⟩, rfl⟩ := ite_some hz
  unfold sortOk at ok
  rw [Bool.and_eq_true, List.all_eq_true] at ok
  obtain ⟨ok1, ok2⟩ := ok
  have hh : X.A.in1.handled = none := I.ok.hd hc
  refine sorted_any (β := Key) (Pu := fun us bs => bs.Perm ks ∧ PySem.W.EachIs (fun v k => keyIs k v = true) us bs) (enc := keyD) (R := fun v k => keyIs k v = true) (fun Q' k => ?_) (fun us bs h => h.2) (fun us bs h' h _ a _ => ?_) (fun us bs h => ?_) (fun us bs h => ?_) (fun us bs h => ?_) (fun us bs h b hb => ?_) fun us out bs h0 s' hP hg hos k0 k1 ⟨c, hc'⟩ eo => ?_
  · refine collect_set hh ⟨o, ho, hx.1, hd⟩ ht.fits he.bound ht.ris ht.led fun s' out k1 _ g1 o1 pm => ?_
    obtain ⟨bs, p, e⟩ := each_perm pm (each_keyV (X := X) he.each)
    exact k out bs s' ⟨p.trans he.pm, e⟩ k1 g1 o1
  · exact h.2.mono fun v b e => ⟨[], key_reads e, by simp⟩
  · intro d hd d' hd'
    have m1 := (h.1.map keyD).mem_iff.mp hd
    have m2 := (h.1.map keyD).mem_iff.mp hd'
    exact List.all_eq_true.mp (Bool.and_eq_true _ _ ▸ ok1 d m1).2 d' m2
  · refine .inr fun d hd => ?_
    obtain ⟨k, _, rfl⟩ := List.mem_map.mp hd
    cases k <;> exact ⟨(fun z => nomatch z), fun _ z => nomatch z⟩
  · rw [h.1.length_eq]
    rw [List.length_map] at hl
    exact lim_sz hl
  · have : (keyD b).depth = 0 := by cases b <;> simp [keyD, PyData.depth]
    omega
  · have w1 := vals_keys eo
    have em : (bs.mergeSort (PySem.W.dataLe false keyD)).map keyD = (ks.map keyD).mergeSort sortLe := by
      refine (List.map_mergeSort (r := PySem.W.dataLe false keyD) (s := sortLe) (f := keyD) (fun a _ b _ => rfl)).trans ?_
      refine sort_perm (hP.1.map keyD) fun a ha b hb e => ?_
      obtain ⟨x, _, rfl⟩ := List.mem_map.mp ha
      obtain ⟨y, _, rfl⟩ := List.mem_map.mp hb
      rw [keyToks_inj e]
    have I0 : Inv X pins σ H { s with heap := h0 } := I.kept (t' := s.toks) k0
    have hn : H h0.objs.size = none := I0.hok.fresh (Nat.le_refl _)
    have I1 := I0.laid (t' := s'.toks) (h' := s'.heap) (a := h0.objs.size) (o := .lst ((bs.mergeSort (PySem.W.dataLe false keyD)).map kV)) k1 (Nat.le_refl _) ⟨by
      rw [List.length_map, (List.mergeSort_perm _ _).length_eq, hP.1.length_eq]
      rw [List.length_map] at hl
      exact lim_sz hl, out, c, w1, hc'⟩
    have I2 : Inv X pins σ (upd H h0.objs.size (.lst ((bs.mergeSort (PySem.W.dataLe false keyD)).map kV))) s' := by
      obtain ⟨hp', g', d', t', o'⟩ := s'
      have hg : g' = s.gens := hg
      have hos : o' = s.os := hos
      subst hg hos
      exact inv_drawn I1
    refine ⟨.ref h0.objs.size, _, I2, rfl, q _ _ (same_new hn) (.lst (SqL.of (grow_at g hn)) ?_)⟩
    rw [← em]
    have : ∀ (G' : Hp) (l : List Key), DrL X.K G' (l.map kV) (l.map keyD) := fun G' l => by
      induction l with
      | nil => exact .nil
      | cons k r ih => exact .cons (dr_kV k) ih
    exact this _ _
end
end DL

/-! D22: the union of two sets of keys. -/
namespace DL
open PySem PySem.Spec PyProof.Rows L2
def goodB (m : Nat) : Bool := m == 7 || m == 15 || m == 31 || m == 63 || m == 127
theorem goodB_of {m : Nat} (h : goodB m = true) : GoodM m := by
  simp [goodB] at h
  unfold GoodM
  omega
theorem sizes_ok : ((List.range 128).all fun k => goodB (SetTable.sizeAbove k - 1) && decide (k ≤ SetTable.sizeAbove k - 1 ∧ SetTable.sizeAbove k ≤ 128)) = true := by decide +kernel
theorem size_good {k : Nat} (h : k ≤ 127) : GoodM (SetTable.sizeAbove k - 1) ∧ k ≤ SetTable.sizeAbove k - 1 ∧ SetTable.sizeAbove k ≤ 128 := by
  have := List.all_eq_true.mp sizes_ok k (List.mem_range.mpr (by omega))
  rw [Bool.and_eq_true, decide_eq_true_eq] at this
  exact ⟨goodB_of this.1, this.2⟩
theorem laid_good {m : Nat} (hm : GoodM m) (fg mv : Nat) (ld pl : Bool) (hs : Array Int) (hn : hs.size ≤ m) :
    ∃ t order, SetTable.laid m fg mv ld pl hs = some (t, order) ∧ t.led = ld ∧ t.fits hs.size = true ∧ Ris t.place.toList ∧ order.toList.Perm (List.range hs.size) ∧ t.mask = m ∧ t.dummies = #[] := by
  obtain ⟨ow, e, o⟩ := layClean_good hm hs (by omega)
  have el : SetTable.laid m fg mv ld pl hs = some ({ mask := m, place := (((List.range (m + 1)).filterMap fun j => (ow.getD j none).map (j, ·)).map (·.1)).toArray, dummies := #[], finger := fg, led := ld, moves := mv, plain := pl }, (((List.range (m + 1)).filterMap fun j => (ow.getD j none).map (j, ·)).map (·.2)).toArray) := by
    unfold SetTable.laid
    rw [e]
    rfl
  have e2 : (((List.range (m + 1)).filterMap fun j => (ow.getD j none).map (j, ·)).map (·.2)) = ow.toList.filterMap id := by
    rw [List.map_filterMap]
    have : ow.toList = (List.range (m + 1)).map fun j => ow.getD j none := by
      refine List.ext_getElem (by simp [o.sz]) fun j h1 h2 => ?_
      simp at h1
      simp [Array.getD, h1]
    rw [this, List.filterMap_map]
    congr 1
    funext j
    show Option.map (·.2) (Option.map (j, ·) (ow.getD j none)) = id (ow.getD j none)
    cases ow.getD j none <;> rfl
  have pm : (((List.range (m + 1)).filterMap fun j => (ow.getD j none).map (j, ·)).map (·.2)).Perm (List.range hs.size) := by
    rw [e2]
    exact o.pm
  have hl := pm.length_eq
  rw [List.length_map, List.length_range] at hl
  refine ⟨_, _, el, rfl, ?_, ?_, by simpa using pm, rfl, rfl⟩
  · unfold SetTable.fits SetTable.fill
    simp only [List.size_toArray, List.length_map, hl, Bool.and_eq_true, beq_self_eq_true, decide_eq_true_eq, true_and, List.length_nil, Nat.add_zero]
    exact hn
  · have := (ris_live (fun j => ow.getD j none) (List.range (m + 1)) (by unfold Ris; exact List.pairwise_lt_range)).1
    simpa using this
theorem reorder_perm {α : Type} {es : Array α} {order : Array Nat} (h : order.toList.Perm (List.range es.size)) : (order.filterMap (es[·]?)).toList.Perm es.toList := by
  rw [Array.toList_filterMap]
  exact (h.filterMap _).trans (by rw [filterMap_getElem?_range])
section
variable {P : Program} {w : World} {A : Around} {E : Value → Shared → Prop} {s : Shared} {a b : Addr}
theorem relay_def (a : Addr) (wanted : Nat) : setRelay a wanted = (do
    let (es, _, t) ← setState a
    if SetTable.sizeAbove wanted > sizeLine then unsupported "set:memory"
    let (es, t) ← (do
      let some (t, order) := t.relaid (es.map (·.1)) wanted | unsupported "internal:set-table-without-room"
      let es' := order.filterMap (es[·]?)
      if es'.size != es.size then unsupported "internal:set-table-lost-an-element"
      pure (es', t))
    storeSet a es t) := rfl
/-- the table laid anew, with room -/
theorem relay_ks {o : Obj} {es : Array (Int × Value)} {ep : Nat} {t : SetTable} {wanted : Nat} {Q : Unit → Shared → Prop} (ho : s.heap.get? a = some o) (hd : o.data = .set es ep t) (hf : t.fits es.size = true) (hw : wanted ≤ 127) (hn : es.size ≤ wanted)
    (q : ∀ h' es' t', Heap.SameBut a s.heap h' → h'.get? a = some { o with data := .set es' (ep + 1) t' } → es'.toList.Perm es.toList → t'.led = t.led → t'.fits es'.size = true → Ris t'.place.toList → t'.dummies = #[] → GoodM t'.mask → wanted ≤ t'.mask → Q () { s with heap := h' }) :
    wpAny (model P w) A (setRelay a wanted) Q E s := by
  obtain ⟨g1, g2, g3⟩ := size_good hw
  obtain ⟨t', order, e, l1, l2, l3, l4, l5, l6⟩ := laid_good g1 t.finger (t.movedTo (SetTable.sizeAbove wanted - 1)) t.led t.plain (es.map (·.1)) (by simp; omega)
  rw [Array.size_map] at l2 l4
  have pm := reorder_perm (es := es) l4
  have hsz : (order.filterMap (es[·]?)).size = es.size := by rw [← Array.length_toList, pm.length_eq, Array.length_toList]
  rw [relay_def]
  refine wpAny_bind (wpAny_setState_of ho hd hf ?_)
  dsimp only
  rw [if_neg (by have : (128 : Nat) ≤ sizeLine := by { rw [sizeLine_eq]; decide }; omega)]
  try refine wpAny_bind (wpAny_pure ?_)
  refine wpAny_bind ?_
  rw [show t.relaid (es.map (·.1)) wanted = some (t', order) from e]
  dsimp only
  rw [if_neg (by rw [hsz]; simp)]
  try refine wpAny_bind (wpAny_pure ?_)
  refine wpAny_pure ?_
  dsimp only
  refine wpAny_storeSet_of ho hd ?_ (by rw [hsz]; have : (128 : Nat) ≤ sizeLine := by { rw [sizeLine_eq]; decide }; omega)
  exact q _ _ _ (Heap.SameBut.update s.heap a _) (store_at ho hd) pm l1 (by rw [hsz]; exact l2) l3 l6 (by rw [l5]; exact g1) (by rw [l5]; exact g2)
/-- the members, in some order -/
theorem walk_ks {ks : List Key} {Q : Array (Int × Value) → Shared → Prop} {o : Obj} {es : Array (Int × Value)} {ep : Nat} {t : SetTable} (ho : s.heap.get? a = some o) (hd : o.data = .set es ep t) (he : EsOk w es ks) (ht : TbOk w t es.size)
    (q : ∀ es' d, es'.toList.Perm es.toList → Q es' { s with drawn := d }) : wpAny (model P w) A (setWalk a) Q E s := by
  unfold setWalk
  refine wpAny_bind (wpAny_setState_of ho hd ht.fits ?_)
  dsimp only
  refine wpAny_bind (wpAny_byText ?_)
  cases hb : w.params.followText "set-order" with
  | true =>
    rw [if_pos rfl]
    refine wpAny_bind (wpAny_askSetting (wpAny_pure ?_))
    exact q _ s.drawn (pick_perm _ es)
  | false =>
    rw [if_neg (by simp)]
    try refine wpAny_bind (wpAny_pure ?_)
    have hl : t.led = true := ht.led.resolve_left (by rw [hb]; simp)
    by_cases hdr : (!t.plain && decide (es.size > 1)) = true
    · refine wp_if_pos hdr ?_
      refine wpAny_bind (drawOrder_at es.size es.toList s _ (by rw [Array.length_toList]; exact Nat.le_refl _) fun ys d pm => ?_)
      exact wpAny_pure (q _ d (by simpa using pm))
    · refine wp_if_neg hdr ?_
      try refine wpAny_bind (wpAny_pure ?_)
      refine wpAny_bind ?_
      refine wp_if_neg (by simp [hl]) ?_
      refine wpAny_pure (wpAny_pure ?_)
      exact q es s.drawn (List.Perm.refl _)
/-- nobody looks on -/
theorem quiet_ks {l : List Addr} (hl : ∀ a ∈ l, ∃ ks, KSt w s.heap a ks) {Q : Bool → Shared → Prop} (q : Q true s) : wpAny (model P w) A (setsQuiet l) Q E s := by
  unfold setsQuiet
  refine wpAny_bind (wpAny_forIn_list _ (fun rest b u => u = s ∧ b = (none, ()) ∧ ∀ a ∈ rest, a ∈ l) _ (fun x rest b u ⟨e1, e2, hm⟩ => ?_) (fun b u ⟨e1, e2, _⟩ => ?_) l _ ⟨rfl, rfl, fun a h => h⟩)
  · subst e1 e2
    obtain ⟨ks, o, es, ep, t, ho, hx, hd, he, ht⟩ := hl x (hm x List.mem_cons_self)
    refine wpAny_bind (wpAny_setEntries_of ho hd ht.fits ?_)
    refine wpAny_bind (MeetsSeq2.wpAny_forIn_array _ (fun rest b v => v = u ∧ b = (none, ()) ∧ ∀ e ∈ rest, e ∈ es.toList) _ (fun e rest b v ⟨e1, e2, hm2⟩ => ?_) (fun b v ⟨e1, e2, _⟩ => ?_) es _ ⟨rfl, rfl, fun a h => h⟩)
    · subst e1 e2
      have hk := (he.each e (hm2 e List.mem_cons_self)).1
      obtain ⟨h, x⟩ := e
      rcases keyIs_shape hk with ⟨i, t, -, e2⟩ | ⟨y, t, -, e2⟩
      · have e2 : x = Value.int i t := e2
        subst e2
        exact wpAny_pure ⟨rfl, rfl, fun a h => hm2 a (List.mem_cons_of_mem _ h)⟩
      · have e2 : x = Value.str y t := e2
        subst e2
        exact wpAny_pure ⟨rfl, rfl, fun a h => hm2 a (List.mem_cons_of_mem _ h)⟩
    · subst e1 e2
      exact wpAny_pure ⟨rfl, rfl, fun a h => hm a (List.mem_cons_of_mem _ h)⟩
  · subst e1 e2
    exact wpAny_pure q
/-- the members as merging asks for them; the target may lose its marks -/
theorem unseen_ks {ks1 ks2 : List Key} {Q : Array (Int × Value) → Shared → Prop} (hab : a ≠ b) (R1 : KSt w s.heap a ks1) (R2 : KSt w s.heap b ks2)
    (q : ∀ es' h' d, (∃ es, es'.toList.Perm es ∧ (∀ e ∈ es, EKey w e) ∧ (es.map eKey).Perm ks2) → Heap.SameBut a s.heap h' → KSt w h' a ks1 → Q es' { s with heap := h', drawn := d }) : wpAny (model P w) A (setWalkUnseen b [a] (some a)) Q E s := by
  obtain ⟨o, es, ep, t, ho, hx, hd, he, ht⟩ := id R2
  unfold setWalkUnseen
  refine wpAny_bind (wpAny_setState_of ho hd ht.fits ?_)
  dsimp only
  refine wpAny_bind (wpAny_byText ?_)
  by_cases hc : (w.params.followText "set-order" || (t.led && t.plain) || decide (es.size ≤ 1)) = true
  · refine wp_if_pos hc ?_
    refine walk_ks ho hd he ht fun es' d pm => ?_
    exact q es' s.heap d ⟨_, pm, he.each, he.pm⟩ (Heap.SameBut.refl a _) R1
  · refine wp_if_neg hc ?_
    try refine wpAny_bind (wpAny_pure ?_)
    refine wpAny_bind (quiet_ks (fun x hx => ?_) ?_)
    · rcases List.mem_cons.mp hx with z | z
      · rw [z]; exact ⟨_, R2⟩
      · rw [List.mem_singleton.mp z]; exact ⟨_, R1⟩
    · refine wp_if_neg (by simp) ?_
      try refine wpAny_bind (wpAny_pure ?_)
      refine wpAny_bind (wpAny_rule ?_)
      try dsimp only
      obtain ⟨o1, es1, ep1, t1, ho1, hx1, hd1, he1, ht1⟩ := id R1
      refine wpAny_bind (wpAny_setState_of ho1 hd1 ht1.fits ?_)
      dsimp only
      split
      · refine wpAny_bind (wpAny_storeSet_of ho1 hd1 ?_ (fits_of_scanBound he1.bound))
        refine wpAny_pure ?_
        refine q es _ s.drawn ⟨_, List.Perm.refl _, he.each, he.pm⟩ (Heap.SameBut.update s.heap a _) ⟨_, es1, _, _, store_at ho1 hd1, hx1, rfl, he1, ht1.fits, ht1.ris, ?_⟩
        rcases ht1.led with z | z
        · exact .inl z
        · rcases ht.led with z2 | z2
          · exact .inl z2
          · exact .inr (by show (t1.led && t.led) = true; rw [z, z2]; rfl)
      · try refine wpAny_bind (wpAny_pure ?_)
        refine wpAny_pure ?_
        exact q es s.heap s.drawn ⟨_, List.Perm.refl _, he.each, he.pm⟩ (Heap.SameBut.refl a _) R1
end
end DL

/-! D23: one set of keys put into another; a | b. -/
namespace DL
open PySem PySem.Spec PyProof.Rows L2
section
variable {P : Program} {w : World} {A : Around} {E : Value → Shared → Prop} {s : Shared} {a b : Addr}
/-- room is made -/
theorem room_ks {o : Obj} {es : Array (Int × Value)} {ep : Nat} {t : SetTable} {more : Nat} {Q : Unit → Shared → Prop} (ho : s.heap.get? a = some o) (hd : o.data = .set es ep t) (hf : t.fits es.size = true) (hr : Ris t.place.toList) (hb : es.size + more ≤ 60)
    (q : ∀ h' es' ep' t', Heap.SameBut a s.heap h' → h'.get? a = some { o with data := .set es' ep' t' } → es'.toList.Perm es.toList → t'.led = t.led → t'.fits es'.size = true → Ris t'.place.toList → (t' = t ∧ (t.fill + more) * 5 < t.mask * 3 ∨ t'.dummies = #[] ∧ GoodM t'.mask ∧ (es.size + more) * 2 ≤ t'.mask) → Q () { s with heap := h' }) :
    wpAny (model P w) A (setRoomFor a more) Q E s := by
  have hpl : t.place.size = es.size := by
    unfold SetTable.fits at hf
    simp only [Bool.and_eq_true, beq_iff_eq] at hf
    exact hf.1
  unfold setRoomFor
  refine wpAny_bind (wpAny_setState_of ho hd hf ?_)
  dsimp only
  by_cases hc : (t.fill + more) * 5 ≥ t.mask * 3
  · rw [show t.roomFor more = some ((t.place.size + more) * 2) from if_pos hc]
    dsimp only
    rw [hpl]
    refine relay_ks ho hd hf (by omega) (by omega) fun h' es' t' sb h1 pm l1 f1 r1 d1 g1 g2 => ?_
    exact q h' es' _ t' sb h1 pm l1 f1 r1 (.inr ⟨d1, g1, g2⟩)
  · rw [show t.roomFor more = none from if_neg hc]
    dsimp only
    refine wpAny_pure (q s.heap es ep t (Heap.SameBut.refl a _) (by rw [← hd]; exact ho) (List.Perm.refl _) rfl hf hr (.inl ⟨rfl, by omega⟩))
theorem KSt.of {o : Obj} {h : Heap} {es : Array (Int × Value)} {ep : Nat} {t : SetTable} {ks : List Key} (ho : h.get? a = some { o with data := .set es ep t }) (hx : o.ExactSet) (he : EsOk w es ks) (ht : TbOk w t es.size) : KSt w h a ks := ⟨_, es, ep, t, ho, hx, rfl, he, ht⟩
/-- into a set that has members -/
theorem merge_ks {ks1 ks2 : List Key} {each : Sem Unit} {Q : Unit → Shared → Prop} (hab : a ≠ b) (R1 : KSt w s.heap a ks1) (h1 : ks1 ≠ []) (R2 : KSt w s.heap b ks2) (h2 : ks2 ≠ []) (hsz : ks1.length + ks2.length ≤ 60)
    (hev : ∀ (u : Shared) (Q' : Unit → Shared → Prop), u.heap.get? b = s.heap.get? b → Q' () u → wpAny (model P w) A each Q' E u)
    (q : ∀ h' d ms, KSt w h' a ms → (∀ k, k ∈ ms ↔ k ∈ ks1 ∨ k ∈ ks2) → Heap.SameBut a s.heap h' → Q () { s with heap := h', drawn := d }) : wpAny (model P w) A (setMerge a b each) Q E s := by
  obtain ⟨o1, es1, ep1, t1, ho1, hx1, hd1, he1, ht1⟩ := id R1
  obtain ⟨o, es, ep, t, ho, hx, hd, he, ht⟩ := id R2
  have n2 : 0 < es.size := by
    rw [he.size]
    exact List.length_pos_iff.mpr h2
  unfold setMerge
  rw [if_neg (by simpa using hab)]
  try refine wpAny_bind (wpAny_pure ?_)
  refine wpAny_bind (wpAny_setState_of ho hd ht.fits ?_)
  dsimp only
  rw [if_neg (by simp; intro z; rw [z] at n2; exact absurd n2 (by simp))]
  try refine wpAny_bind (wpAny_pure ?_)
  refine wpAny_bind (room_ks (more := es.size) ho1 hd1 ht1.fits ht1.ris (by rw [he1.size, he.size]; exact hsz) fun hr esr epr tr sbr hor pmr ldr ftr rir _ => ?_)
  have her : EsOk w esr ks1 := he1.perm pmr
  have htr : TbOk w tr esr.size := ⟨ftr, rir, ht1.led.imp id fun z => by rw [ldr]; exact z⟩
  have R1' : KSt w hr a ks1 := KSt.of hor hx1 her htr
  have hob : hr.get? b = some o := by rw [sbr.2 b (Ne.symm hab)]; exact ho
  have R2' : KSt w hr b ks2 := ⟨o, es, ep, t, hob, hx, hd, he, ht⟩
  refine wpAny_bind (wpAny_setState_of (s := { s with heap := hr }) hor rfl htr.fits ?_)
  dsimp only
  have hfill : tr.fill ≠ 0 := by
    have : tr.place.size = esr.size := by
      unfold SetTable.fits at ftr
      simp only [Bool.and_eq_true, beq_iff_eq] at ftr
      exact ftr.1
    unfold SetTable.fill
    have : 0 < esr.size := by
      rw [her.size]
      exact List.length_pos_iff.mpr h1
    omega
  rw [show tr.road t = .oneByOne from if_pos (by simpa using hfill)]
  dsimp only
  refine wpAny_bind (unseen_ks (s := { s with heap := hr }) hab R1' R2' fun es' hw' d' ⟨el, pm', each', pmk⟩ sbw R1w => ?_)
  have hobw : hw'.get? b = some o := by rw [sbw.2 b (Ne.symm hab)]; exact hob
  have mem2 : ∀ k, k ∈ ks2 ↔ ∃ e ∈ es'.toList, eKey e = k := fun k => by
    rw [← pmk.mem_iff, List.mem_map]
    exact ⟨fun ⟨e, h, q⟩ => ⟨e, pm'.mem_iff.mpr h, q⟩, fun ⟨e, h, q⟩ => ⟨e, pm'.mem_iff.mp h, q⟩⟩
  have len2 : es'.toList.length = ks2.length := by rw [pm'.length_eq, ← List.length_map (f := eKey), pmk.length_eq]
  refine wpAny_bind (MeetsSeq2.wpAny_forIn_array _ (fun rest _ u => ∃ done ms h', done ++ rest = es'.toList ∧ u = { s with heap := h', drawn := d' } ∧ Heap.SameBut a hw' h' ∧ KSt w h' a ms ∧ (∀ k, k ∈ ms ↔ k ∈ ks1 ∨ ∃ e ∈ done, eKey e = k) ∧ ms.length ≤ ks1.length + done.length) _ (fun e rest bb u hI => ?_) (fun bb u hI => ?_) es' _ ⟨[], ks1, hw', rfl, rfl, Heap.SameBut.refl a _, R1w, by simp, by simp⟩)
  · obtain ⟨done, ms, h', ed, eu, sb, R, hm, hl⟩ := hI
    subst eu
    have hin : e ∈ el := pm'.mem_iff.mp (by rw [← ed]; simp)
    have hk := each' e hin
    obtain ⟨hh, x⟩ := e
    have ehh : hh = keyH w (eKey (hh, x)) := hk.2
    have hlen : done.length < ks2.length := by
      have := congrArg List.length ed
      rw [List.length_append, List.length_cons, len2] at this
      omega
    refine wpAny_bind (wpAny_holding ?_)
    dsimp only
    rw [show setAddHashed a x hh = setAddHashed a x (keyH w (eKey (hh, x))) from by rw [← ehh]]
    refine ks_add (s := { s with heap := h', drawn := d' }) R hk.1 (by omega) fun bo h2 sb2 R2 => ?_
    have eb : h2.get? b = some o := by rw [sb2.2 b (Ne.symm hab), sb.2 b (Ne.symm hab)]; exact hobw
    refine wpAny_bind (hev _ _ (by rw [ho]; exact eb) ?_)
    refine wpAny_bind (wpAny_setState_of (s := { s with heap := h2, drawn := d' }) eb hd ht.fits ?_)
    dsimp only
    rw [if_neg (by simp)]
    try refine wpAny_bind (wpAny_pure ?_)
    refine wpAny_pure ⟨done ++ [(hh, x)], _, h2, by rw [← ed]; simp, rfl, sb.trans sb2, R2, fun k => ?_, ?_⟩
    · rw [mem_addK, hm k]
      constructor
      · rintro (z | z | ⟨e, he, z⟩)
        · exact .inr ⟨_, by simp, z.symm⟩
        · exact .inl z
        · exact .inr ⟨e, by simp [he], z⟩
      · rintro (z | ⟨e, he, z⟩)
        · exact .inr (.inl z)
        · rcases List.mem_append.mp he with y | y
          · exact .inr (.inr ⟨e, y, z⟩)
          · rw [List.mem_singleton.mp y] at z
            exact .inl z.symm
    · have := addK_len (ks := ms) (k := eKey (hh, x))
      rw [List.length_append, List.length_singleton]
      omega
  · obtain ⟨done, ms, h', ed, eu, sb, R, hm, hl⟩ := hI
    subst eu
    rw [List.append_nil] at ed
    subst ed
    refine wpAny_pure (q h' d' ms R (fun k => ?_) ((sbr.trans sbw).trans sb))
    rw [hm k, mem2 k]
end
end DL

/-! D24: a | b for sets of keys. -/
namespace DL
open PySem PySem.Spec PyProof.Rows L2
section
variable {P : Program} {w : World} {A : Around} {E : Value → Shared → Prop} {s : Shared} {a b : Addr}
theorem mergeDef (s o : Addr) (each : Sem Unit) : setMerge s o each = (do
    if s == o then return
    let (eo, epoch, to) ← setState o
    if eo.isEmpty then return
    setRoomFor s eo.size
    let (_, _, ts) ← setState s
    match ts.road to with
    | .slotForSlot => storeSet s eo { to with finger := ts.finger, led := ts.led && to.led, moves := ts.moves, plain := ts.plain && to.plain }
    | .clean =>
      let (es, t) ← (do
        let some (t, order) := SetTable.laid ts.mask ts.finger ts.moves (led := ts.led && to.led) (plain := ts.plain && to.plain) (eo.map (·.1)) | unsupported "internal:set-table-without-room"
        let es' := order.filterMap (eo[·]?)
        if es'.size != eo.size then unsupported "internal:set-table-lost-an-element"
        pure (es', t))
      storeSet s es t
    | .oneByOne =>
      for (h, x) in ← setWalkUnseen o [s] (some s) do
        let _ ← holding [x] (setAddHashed s x h)
        each
        if (← setState o).2.1 != epoch then unsupported "set.changed-during-merge") := rfl
/-- into a new set -/
theorem merge_new {ks2 : List Key} {Q : Unit → Shared → Prop} (hab : a ≠ b) (ho1 : s.heap.get? a = some (setO0 w)) (R2 : KSt w s.heap b ks2) (h2 : ks2 ≠ []) (hsz : ks2.length ≤ 60)
    (q : ∀ h', KSt w h' a ks2 → Heap.SameBut a s.heap h' → Q () { s with heap := h' }) : wpAny (model P w) A (setMerge a b) Q E s := by
  obtain ⟨o, es, ep, t, ho, hx, hd, he, ht⟩ := id R2
  obtain ⟨o1, es1, ep1, t1, ho1', hx1, hd1, he1, ht1⟩ := kst_new ho1
  have n2 : 0 < es.size := by
    rw [he.size]
    exact List.length_pos_iff.mpr h2
  rw [mergeDef, if_neg (by simpa using hab)]
  try refine wpAny_bind (wpAny_pure ?_)
  refine wpAny_bind (wpAny_setState_of ho hd ht.fits ?_)
  dsimp only
  rw [if_neg (by simp; intro z; rw [z] at n2; exact absurd n2 (by simp))]
  try refine wpAny_bind (wpAny_pure ?_)
  have hl0 : w.params.followText "set-order" = true ∨ (!w.params.followText "set-order") = true := by
    cases w.params.followText "set-order"
    · exact .inr rfl
    · exact .inl rfl
  refine wpAny_bind (room_ks (more := es.size) (o := setO0 w) (es := #[]) (ep := 0) ho1 rfl rfl List.Pairwise.nil (by rw [he.size]; simpa using hsz) fun hr esr epr tr sbr hor pmr ldr ftr rir hcase => ?_)
  have hes0 : esr = #[] := by
    have := pmr.length_eq
    simpa using this
  subst hes0
  have hpl : tr.place.size = 0 := by
    unfold SetTable.fits at ftr
    simp only [Bool.and_eq_true, beq_iff_eq] at ftr
    exact ftr.1
  have hob : hr.get? b = some o := by rw [sbr.2 b (Ne.symm hab)]; exact ho
  refine wpAny_bind (wpAny_setState_of (s := { s with heap := hr }) hor rfl ftr ?_)
  dsimp only
  have hfill : tr.fill = 0 := by
    unfold SetTable.fill
    rcases hcase with ⟨e, _⟩ | ⟨e, _⟩
    · rw [e]; rfl
    · rw [e, hpl]; rfl
  have hm : GoodM tr.mask ∧ es.size ≤ tr.mask := by
    rcases hcase with ⟨e, l⟩ | ⟨_, g, l⟩
    · rw [e]
      have l : (0 + es.size) * 5 < 7 * 3 := l
      exact ⟨.inl rfl, by show es.size ≤ 7; omega⟩
    · have l : (0 + es.size) * 2 ≤ tr.mask := l
      exact ⟨g, by omega⟩
  have hled : w.params.followText "set-order" = true ∨ (tr.led && t.led) = true := by
    rcases ht.led with z | z
    · exact .inl z
    · rcases hl0 with y | y
      · exact .inl y
      · exact .inr (by rw [ldr, z]; show ((!w.params.followText "set-order") && true) = true; rw [y]; rfl)
  unfold SetTable.road
  rw [if_neg (by simp [hfill])]
  by_cases hs : (tr.mask == t.mask && t.dummies.isEmpty) = true
  · rw [if_pos hs]
    dsimp only
    refine wpAny_storeSet_of (s := { s with heap := hr }) hor rfl ?_ (fits_of_scanBound he.bound)
    refine q _ ⟨_, es, _, _, store_at hor rfl, ⟨rfl, rfl, rfl⟩, rfl, he, ?_, ?_, ?_⟩ (sbr.trans (Heap.SameBut.update _ a _))
    · exact ht.fits
    · exact ht.ris
    · exact hled
  · rw [if_neg hs]
    dsimp only
    obtain ⟨t', order, e, l1, l2, l3, l4, l5, l6⟩ := laid_good hm.1 tr.finger tr.moves (tr.led && t.led) (tr.plain && t.plain) (es.map (·.1)) (by simp; exact hm.2)
    rw [Array.size_map] at l2 l4
    have pm := reorder_perm (es := es) l4
    have hsz' : (order.filterMap (es[·]?)).size = es.size := by rw [← Array.length_toList, pm.length_eq, Array.length_toList]
    refine wpAny_bind ?_
    rw [e]
    dsimp only
    rw [if_neg (by rw [hsz']; simp)]
    try refine wpAny_bind (wpAny_pure ?_)
    refine wpAny_pure ?_
    dsimp only
    have he' : EsOk w (order.filterMap (es[·]?)) ks2 := he.perm pm
    refine wpAny_storeSet_of (s := { s with heap := hr }) hor rfl ?_ (fits_of_scanBound he'.bound)
    refine q _ ⟨_, _, _, _, store_at hor rfl, ⟨rfl, rfl, rfl⟩, rfl, he', by rw [hsz']; exact l2, l3, ?_⟩ (sbr.trans (Heap.SameBut.update _ a _))
    rw [l1]
    exact hled
/-! ### a | b -/
theorem any_set {ks : List Key} (R : KSt w s.heap a ks) {Q : Bool → Shared → Prop} (q : Q true s) : wpAny (model P w) A (Builtin.Frozenset.isAnySet (.ref a)) Q E s := by
  unfold Builtin.Frozenset.isAnySet orM
  refine wpAny_bind (wpAny_isInstance (b := true) R.ty sub_set_self ?_)
  exact wpAny_pure q
theorem copy_ks {ks : List Key} (R : KSt w s.heap a ks) (h0 : ks ≠ []) (hsz : ks.length ≤ 60) {Q : Value → Shared → Prop} (q : ∀ h', KSt w h' s.heap.objs.size ks → (∀ b o, s.heap.get? b = some o → h'.get? b = some o) → Q (.ref s.heap.objs.size) { s with heap := h' }) :
    wpAny (model P w) A (Builtin.Frozenset.copyOf a) Q E s := by
  unfold Builtin.Frozenset.copyOf Builtin.Frozenset.baseOf
  refine wpAny_bind (wpAny_bind (wpAny_isInstance (b := true) R.ty sub_set_self (wpAny_pure ?_)))
  refine wpAny_bind ?_
  unfold newSet
  refine wpAny_bind (wpAny_byText ?_)
  show wpAny _ _ (newObj (.type "set") _) _ _ _
  refine wpAny_newObj_type ?_
  have hlt : a < s.heap.objs.size := R.lt
  show wpAny (model P w) A (do setMerge (← Builtin.Frozenset.addrOf (.ref s.heap.objs.size)) a; pure (.ref s.heap.objs.size)) Q E (withSet w s)
  refine wpAny_bind (wpAny_pure ?_)
  have at0 : (withSet w s).heap.get? s.heap.objs.size = some (setO0 w) := Heap.get?_push_size _ rfl
  refine wpAny_bind (merge_new (s := withSet w s) (Nat.ne_of_gt hlt) at0 (R.at fun o e => Heap.get?_push_of_some _ e) h0 hsz fun h' R' sb => ?_)
  refine wpAny_pure (q h' R' fun b o e => ?_)
  rw [sb.2 b (Nat.ne_of_lt (Heap.lt_size e))]
  exact Heap.get?_push_of_some _ e
theorem epoch_at {o : Obj} {es : Array (Int × Value)} {ep : Nat} {t : SetTable} (ho : s.heap.get? a = some o) (hd : o.data = .set es ep t) (hf : t.fits es.size = true) {Q : Nat → Shared → Prop} (q : Q ep s) : wpAny (model P w) A (setEpoch a) Q E s := wpAny_setEpoch_of ho hd hf q
theorem or_body {ks1 ks2 : List Key} (hab : a ≠ b) (R1 : KSt w s.heap a ks1) (R2 : KSt w s.heap b ks2) (h1 : ks1 ≠ []) (h2 : ks2 ≠ []) (hsz : ks1.length + ks2.length ≤ 60) {Q : Value → Shared → Prop}
    (q : ∀ h' d ms, KSt w h' s.heap.objs.size ms → (∀ k, k ∈ ms ↔ k ∈ ks1 ∨ k ∈ ks2) → (∀ b o, s.heap.get? b = some o → h'.get? b = some o) → Q (.ref s.heap.objs.size) { s with heap := h', drawn := d }) :
    wpAny (model P w) A (Builtin.«frozenset.__or__» ⟨[.ref a, .ref b], []⟩) (fun fin s' => ∃ r, fin = .done (.ret r) ∧ Q r s') E s := by
  have hla : a < s.heap.objs.size := R1.lt
  have hlb : b < s.heap.objs.size := R2.lt
  show wpAny (model P w) A (do
    if !(← Builtin.Frozenset.isAnySet (.ref a) <&&> Builtin.Frozenset.isAnySet (.ref b)) then rule "frozenset.__or__.declined"; return ← ret .notImplemented
    ret (← (do
      let result ← Builtin.Frozenset.copyOf a
      if Value.ref b != .ref a then holding [result] (Builtin.Frozenset.updateFrom "frozenset.__or__" (← Builtin.Frozenset.addrOf result) (.ref b))
      return result))) _ E s
  refine wpAny_bind ?_
  unfold andM
  refine wpAny_bind (any_set R1 ?_)
  refine any_set R2 ?_
  rw [if_neg (by simp)]
  try refine wpAny_bind (wpAny_pure ?_)
  refine wpAny_bind ?_
  refine wpAny_bind (copy_ks R1 h1 (by omega) fun h' R1' k' => ?_)
  dsimp only
  have hn : (Value.ref b != Value.ref a) = true := by
    simp
    exact fun z => hab z.symm
  rw [if_pos hn]
  refine wpAny_bind (wpAny_pure (wpAny_bind ?_))
  show wpAny (model P w) A (holding [.ref s.heap.objs.size] (Builtin.Frozenset.updateFrom "frozenset.__or__" s.heap.objs.size (.ref b))) _ E _
  refine wpAny_holding ?_
  unfold Builtin.Frozenset.updateFrom
  have R2' : KSt w h' b ks2 := R2.at fun o e => k' b o e
  refine wpAny_bind (any_set (s := { s with heap := h' }) R2' ?_)
  rw [if_pos rfl]
  show wpAny (model P w) A (Builtin.Frozenset.merge "frozenset.__or__" s.heap.objs.size b) _ E _
  unfold Builtin.Frozenset.merge
  obtain ⟨o, es, ep, t, ho, hx, hd, he, ht⟩ := id R2'
  refine wpAny_bind (wpAny_setEpoch_of (s := { s with heap := h' }) ho hd ht.fits ?_)
  refine merge_ks (s := { s with heap := h' }) (Nat.ne_of_gt hlb) R1' h1 R2' h2 hsz (fun u Q' hu q' => ?_) fun h2' d ms R3 hm sb => ?_
  · unfold Builtin.Frozenset.unchanged
    have hu : u.heap.get? b = some o := by rw [hu]; exact ho
    refine wpAny_bind (wpAny_setEpoch_of hu hd ht.fits ?_)
    rw [if_neg (by simp)]
    exact wpAny_pure q'
  · refine wpAny_pure ?_
    refine wpAny_pure ⟨_, rfl, q h2' d ms R3 hm fun b o e => ?_⟩
    rw [sb.2 b (Nat.ne_of_lt (Heap.lt_size e))]
    exact k' b o e
end
end DL

/-! D25: sets of keys in a text: set(e), a | b, len(set), sorted(set). -/
namespace DL
open PySem PySem.Spec PyProof.Rows L2
/-- no key twice -/
def ddK : List Key → List Key
  | [] => []
  | k :: r => k :: (ddK r).filter fun j => !decide (j = k)
theorem mem_ddK : ∀ {ks : List Key} {j : Key}, j ∈ ddK ks ↔ j ∈ ks
  | [], j => by simp [ddK]
  | k :: r, j => by
    simp only [ddK, List.mem_cons, List.mem_filter, mem_ddK (ks := r), Bool.not_eq_true', decide_eq_false_iff_not]
    by_cases h : j = k
    · simp [h]
    · simp [h]
theorem nd_ddK : ∀ {ks : List Key}, (ddK ks).Nodup
  | [] => List.nodup_nil
  | k :: r => by
    refine List.nodup_cons.mpr ⟨fun h => ?_, nd_ddK.sublist List.filter_sublist⟩
    have := (List.mem_filter.mp h).2
    simp at this
theorem perm_ddK {ks ms : List Key} (nd : ms.Nodup) (h : ∀ k, k ∈ ms ↔ k ∈ ks) : ms.Perm (ddK ks) := (List.perm_ext_iff_of_nodup nd nd_ddK).mpr fun k => (h k).trans mem_ddK.symm
theorem sortOk_perm {ds es : List PyData} (p : ds.Perm es) : sortOk ds = sortOk es := by
  unfold sortOk
  have a1 : ∀ q : PyData → Bool, ds.all q = es.all q := fun q => by
    rw [Bool.eq_iff_iff, List.all_eq_true, List.all_eq_true]
    exact ⟨fun h x hx => h x (p.mem_iff.mpr hx), fun h x hx => h x (p.mem_iff.mp hx)⟩
  rw [a1, a1, a1]
  congr 2
  exact funext fun d => by rw [a1]
theorem sortL_keys {ks ms : List Key} (p : ms.Perm ks) : sortL (ms.map keyD) = sortL (ks.map keyD) := by
  unfold sortL
  rw [sortOk_perm (p.map keyD), (p.map keyD).length_eq]
  rw [sort_perm (p.map keyD) fun a ha b hb e => by
    obtain ⟨x, _, rfl⟩ := List.mem_map.mp ha
    obtain ⟨y, _, rfl⟩ := List.mem_map.mp hb
    rw [keyToks_inj e]]
section
variable {X : Cx} {Z : Pm} {W : WX}
def KR (w : World) : Hp → Own → Hp → V → List Key → Prop := fun G _ _ v ks => ∃ a ms, v = .ref a ∧ G a = some (KSO w a ms) ∧ ms.Nodup ∧ ∀ k, k ∈ ms ↔ k ∈ ks
/-- an expression that gives a set of keys -/
abbrev DK (X : Cx) (Z : Pm) (W : WX) (e : Expr) (f : Env → R (List Key)) : Prop := PE X e (T_ Z W (KR X.w) f)
def setOfD (d : PyData) : Option (List Key) := match (seqD d).bind keysOf with
  | some ks => if ks.length < 3000 then some ks else none
  | none => none
def kSet (f : Env → R PyData) : Env → R (List Key) := fun ρ => (f ρ).bind fun d ρ1 => match setOfD d with
  | some ks => .ok ks ρ1
  | none => .bad
theorem dk_set {e : Expr} {f : Env → R PyData} {p pos : Pos} (hK : X.K = Z.K) (hc : X.calm = true) (hg : Gl X "set") (hm : X.mg "set" = none) (ha : DE X Z W e f)
    (he : starEach [e] X.env = (false, eval e X.env) :: starEach [] X.env := by rfl) (hpl : (backTo pos (starEach [] X.env)).any (·.1) = false := by rfl) : DK X Z W (.Call (.Name "set" p) [e] [] pos) (kSet f) := by
  refine PE_imp (pe_callTy (cr_setK hc) hg hm (by decide +kernel) (pa_cons ha pa_nil he) (by decide) (by decide) he hpl) fun σ H Q ⟨ρ, G, O, R, P⟩ => ?_
  refine t_bind R P fun d ρ1 v G1 O1 H1 e1 R1 S1 D1 P1 => ?_
  unfold setOfD at P1
  cases hs : seqD d with
  | none => rw [hs] at P1; exact P1.elim
  | some ds =>
    cases hk : keysOf ds with
    | none => rw [hs] at P1; simp only [Option.bind, hk] at P1; exact P1.elim
    | some ks =>
      rw [hs] at P1
      simp only [Option.bind, hk] at P1
      by_cases hl : ks.length < 3000
      · rw [if_pos hl] at P1
        refine ⟨G1, v, d, ds, ks, rfl, R1.gh, by rw [hK]; exact D1, hs, hk, hl, fun p ms hp nd hmem => ?_⟩
        exact P1 (.ref p) (grow G1 H1 (upd H1 p (KSO X.w p ms))) O1 _ (R1.grow (same_new hp)) (R1.stepGrow (same_new hp)) ⟨p, ms, rfl, grow_at R1.gh hp, nd, hmem⟩
      · rw [if_neg hl] at P1
        exact P1.elim
def eLenK (f : Env → R (List Key)) : Env → R PyData := fun ρ => (f ρ).bind fun ks ρ1 => .ok (.int ((ddK ks).length : Nat)) ρ1
theorem de_lenK {e : Expr} {f : Env → R (List Key)} {p pos : Pos} (hg : Gl X "len") (hm : X.mg "len" = none) (ha : DK X Z W e f)
    (he : starEach [e] X.env = (false, eval e X.env) :: starEach [] X.env := by rfl) (hpl : (backTo pos (starEach [] X.env)).any (·.1) = false := by rfl) : DE X Z W (.Call (.Name "len" p) [e] [] pos) (eLenK f) := by
  refine PE_imp (pe_callB cr_lenK hg hm PySem.boot_len (pa_cons ha pa_nil he) (by decide) (by decide) he hpl) fun σ H Q ⟨ρ, G, O, R, P⟩ => ?_
  refine t_bind R P fun ks ρ1 v G1 O1 H1 e1 R1 S1 ⟨a, ms, ev, hG, nd, hmem⟩ P1 => ?_
  subst ev
  refine ⟨a, ms, rfl, R1.gh _ _ hG, ?_⟩
  rw [(perm_ddK nd hmem).length_eq]
  exact P1 _ G1 O1 H1 R1 Step.refl (.int _)
def eSortK (f : Env → R (List Key)) : Env → R PyData := fun ρ => (f ρ).bind fun ks ρ1 => match sortL ((ddK ks).map keyD) with
  | some z => .ok z ρ1
  | none => .bad
theorem de_sortK {e : Expr} {f : Env → R (List Key)} {p pos : Pos} (hK : X.K = Z.K) (hc : X.calm = true) (hu : X.A.units + 80 < cLine) (hg : Gl X "sorted") (hm : X.mg "sorted" = none) (ha : DK X Z W e f)
    (he : starEach [e] X.env = (false, eval e X.env) :: starEach [] X.env := by rfl) (hpl : (backTo pos (starEach [] X.env)).any (·.1) = false := by rfl) : DE X Z W (.Call (.Name "sorted" p) [e] [] pos) (eSortK f) := by
  refine PE_imp (pe_callB (cr_sortK hc hu) hg hm (by decide +kernel) (pa_cons ha pa_nil he) (by decide) (by decide) he hpl) fun σ H Q ⟨ρ, G, O, R, P⟩ => ?_
  refine t_bind R P fun ks ρ1 v G1 O1 H1 e1 R1 S1 ⟨a, ms, ev, hG, nd, hmem⟩ P1 => ?_
  subst ev
  cases hz : sortL ((ddK ks).map keyD) with
  | none => rw [hz] at P1; exact P1.elim
  | some z =>
    rw [hz] at P1
    refine ⟨a, ms, z, G1, rfl, R1.gh _ _ hG, (sortL_keys (perm_ddK nd hmem)).trans hz, R1.gh, ?_⟩
    rw [hK]
    exact post_pure R1 P1
/-! ### a | b -/
theorem entry_set_or : entryFor table "set.__or__" = some Builtin.«frozenset.__or__» :=
  entryFor_alias (id' := "frozenset.__or__") (by kernel_rfl) rfl (by decide +kernel) (by kernel_rfl)
theorem or_K : OpR X (binaryOp .BitOr) (fun x y H Q => ∃ a b ks ms, x = .ref a ∧ y = .ref b ∧ a ≠ b ∧ H a = some (KSO X.w a ks) ∧ H b = some (KSO X.w b ms) ∧ ks ≠ [] ∧ ms ≠ [] ∧ ks.length + ms.length ≤ 60 ∧
    ∀ p rs, H p = none → rs.Nodup → (∀ k, k ∈ rs ↔ k ∈ ks ∨ k ∈ ms) → Q (.ref p) (upd H p (KSO X.w p rs))) := by
  intro pins s σ H x y v u Q I rx ry ⟨a, b, ks, ms, ex, ey, hab, ha, hb, h1, h2, hl, q⟩
  subst ex ey
  cases rx
  cases ry
  have R1 := kso_get I ha
  have R2 := kso_get I hb
  refine wpAny_binaryOp_same (T := "set") (op := .BitOr) R1.ty R2.ty PySem.F.fills_set_or PySem.F.slot_set_or ?_
  refine wpAny_call_entry PySem.F.slot_set_or R1.ty entry_set_or ?_ (PySem.F.args_set_or_2 _ _)
  refine or_body hab R1 R2 h1 h2 hl fun h' d rs R3 hm k => ⟨by simp, ?_⟩
  have I1 : Inv X pins σ (upd H s.heap.objs.size (KSO X.w s.heap.objs.size rs)) { s with heap := h' } := I.laid (t' := s.toks) k (Nat.le_refl _) (kso_ok R3)
  exact ⟨.ref _, _, inv_drawn I1, rfl, q _ _ (I.hok.fresh (Nat.le_refl _)) (kst_nd R3) hm⟩
def kOr (f g : Env → R (List Key)) : Env → R (List Key) := fun ρ => (f ρ).bind fun a ρ1 => (g ρ1).bind fun b ρ2 => if a ≠ [] ∧ b ≠ [] ∧ a.length + b.length ≤ 60 then .ok (a ++ b) ρ2 else .bad
/-- .. and the set is a new one -/
def TKn (Z : Pm) (W : WX) (w : World) (f : Env → R (List Key)) : L2.St → Hp → (V → Hp → Prop) → Prop := fun σ H Q => ∃ ρ G O, Rel Z ρ σ G O H ∧ Post Z W (fun G' O' H' v ks => KR w G' O' H' v ks ∧ ∀ a, v = .ref a → G a = none) σ G O H Q (f ρ)
abbrev DKn (X : Cx) (Z : Pm) (W : WX) (e : Expr) (f : Env → R (List Key)) : Prop := PE X e (TKn Z W X.w f)
theorem dk_setN {e : Expr} {f : Env → R PyData} {p pos : Pos} (hK : X.K = Z.K) (hc : X.calm = true) (hg : Gl X "set") (hm : X.mg "set" = none) (ha : DE X Z W e f)
    (he : starEach [e] X.env = (false, eval e X.env) :: starEach [] X.env := by rfl) (hpl : (backTo pos (starEach [] X.env)).any (·.1) = false := by rfl) : DKn X Z W (.Call (.Name "set" p) [e] [] pos) (kSet f) := by
  refine PE_imp (pe_callTy (cr_setK hc) hg hm (by decide +kernel) (pa_cons ha pa_nil he) (by decide) (by decide) he hpl) fun σ H Q ⟨ρ, G, O, R, P⟩ => ?_
  refine t_bind R P fun d ρ1 v G1 O1 H1 e1 R1 S1 D1 P1 => ?_
  unfold setOfD at P1
  cases hs : seqD d with
  | none => rw [hs] at P1; exact P1.elim
  | some ds =>
    cases hk : keysOf ds with
    | none => rw [hs] at P1; simp only [Option.bind, hk] at P1; exact P1.elim
    | some ks =>
      rw [hs] at P1
      simp only [Option.bind, hk] at P1
      by_cases hl : ks.length < 3000
      · rw [if_pos hl] at P1
        refine ⟨G1, v, d, ds, ks, rfl, R1.gh, by rw [hK]; exact D1, hs, hk, hl, fun p ms hp nd hmem => ?_⟩
        refine P1 (.ref p) (grow G1 H1 (upd H1 p (KSO X.w p ms))) O1 _ (R1.grow (same_new hp)) (R1.stepGrow (same_new hp)) ⟨⟨p, ms, rfl, grow_at R1.gh hp, nd, hmem⟩, fun a ea => ?_⟩
        cases ea
        cases eG : G p with
        | none => rfl
        | some o =>
          have := R1.gh _ _ (S1.gg _ _ eG)
          rw [hp] at this
          cases this
      · rw [if_neg hl] at P1
        exact P1.elim
theorem dk_or {e1 e2 : Expr} {f g : Env → R (List Key)} {pos : Pos} (h1 : DK X Z W e1 f) (h2 : DKn X Z W e2 g) : DK X Z W (.BinOp e1 .BitOr e2 pos) (kOr f g) := by
  refine PE_imp (pe_op or_K h1 h2) fun σ H Q ⟨ρ, G, O, R, P⟩ => ?_
  refine t_bind R P fun ks ρ1 v G1 O1 H1 e1 R1 S1 ⟨a, ms, ev, hG, nd, hmem⟩ P1 => ?_
  subst ev
  refine ⟨ρ1, G1, O1, R1, ?_⟩
  cases e : g ρ1 with
  | er x ρ2 =>
    rw [e] at P1
    exact P1
  | bad =>
    rw [e] at P1
    exact P1
  | ok ks2 ρ2 =>
    rw [e] at P1
    intro u G2 O2 H2 R2 S2 ⟨⟨b, ms2, eu, hG2, nd2, hmem2⟩, hnew⟩
    subst eu
    have P2 := Post.step S2 P1
    have P2 : Post Z W (KR X.w) σ G2 O2 H2 Q (if ks ≠ [] ∧ ks2 ≠ [] ∧ ks.length + ks2.length ≤ 60 then .ok (ks ++ ks2) ρ2 else .bad) := P2
    by_cases hc : ks ≠ [] ∧ ks2 ≠ [] ∧ ks.length + ks2.length ≤ 60
    · rw [if_pos hc] at P2
      have ne1 : ms ≠ [] := fun z => by
        subst z
        cases ks with
        | nil => exact hc.1 rfl
        | cons k r => exact absurd ((hmem k).mpr List.mem_cons_self) (by simp)
      have ne2 : ms2 ≠ [] := fun z => by
        subst z
        cases ks2 with
        | nil => exact hc.2.1 rfl
        | cons k r => exact absurd ((hmem2 k).mpr List.mem_cons_self) (by simp)
      have l1 : ms.length ≤ ks.length := nd.length_le_of_subset fun k hk => (hmem k).mp hk
      have l2 : ms2.length ≤ ks2.length := nd2.length_le_of_subset fun k hk => (hmem2 k).mp hk
      refine ⟨a, b, ms, ms2, rfl, rfl, fun z => ?_, R2.gh _ _ (S2.gg _ _ hG), R2.gh _ _ hG2, ne1, ne2, by omega, fun p rs hp nd3 hm3 => ?_⟩
      · subst z
        have := hnew a rfl
        rw [hG] at this
        cases this
      · exact P2 (.ref p) (grow G2 H2 (upd H2 p (KSO X.w p rs))) O2 _ (R2.grow (same_new hp)) (R2.stepGrow (same_new hp)) ⟨p, rs, rfl, grow_at R2.gh hp, nd3, fun k => by rw [hm3 k, hmem k, hmem2 k, List.mem_append]⟩
    · rw [if_neg hc] at P2
      exact P2.elim
end
end DL

namespace DL
open PySem PySem.Spec PyProof.Rows L2
/-! _law_bag: 0 cell, 1 place -/
def b__law_bag : Env → FlR (List PyData) :=
  (sRet (aCons (eCall maxD (aCons (eC (.int 0)) (aCons (eOp subD (eVar 0) (eOp powD (eC (.int 10)) (eC (.int 18)))) aNil))) (aCons (eOp modD (eOp addD (eOp mulD (eVar 0) (eC (.int 7919))) (eOp mulD (eC (.int 104729)) (eOp addD (eVar 1) (eC (.int 1))))) (eC (.int 2147483647))) (aCons (eVar 1) aNil))))
def f__law_bag : Env → R (List PyData) := fnF 0 (b__law_bag)
/-! _law_draw: 0 bag, 1 many, 2 found -/
def b__law_draw : Env → FlR (PyData) :=
  (sSeq (sIf (cCmp gtI (eIxO 0 (eC (.int 0))) (eC (.int 0)))
    (sSeq (sSet 2 (eOp modD (eIxO 0 (eC (.int 0))) (eVar 1)))
    (sSeq (sSubL 0 (eC (.int 0)) (eOp divD (eIxO 0 (eC (.int 0))) (eVar 1)))
    (sRet (eVar 2))))
    sNil)
    (sSeq (sAugL (· + ·) 0 2 (eC (.int 1)))
    (sSeq (sSubL 0 (eC (.int 1)) (eOp modD (eOp addD (eOp addD (eOp mulD (eIxO 0 (eC (.int 1))) (eIxO 0 (eC (.int 1)))) (eOp mulD (eC (.int 2654435)) (eIxO 0 (eC (.int 2))))) (eC (.int 12345))) (eC (.int 2147483629))))
    (sRet (eOp modD (eOp divD (eIxO 0 (eC (.int 1))) (eC (.int 64))) (eVar 1))))))
def f__law_draw : Env → R (PyData) := fnN 1 (b__law_draw)
/-! _law_values: 0 ladder, 1 above, 2 row -/
def b__law_values : Env → FlR (PyData) :=
  (sSeq (sIf (cCmp eqB (eOp ixD (eVar 0) (eC (.int 0))) (eC (.str "num")))
    (sRet (eLst (aCons (eUn negD (eC (.int 7))) (aCons (eUn negD (eC (.int 1))) (aCons (eC (.int 0)) (aCons (eC (.int 1)) (aCons (eC (.int 2)) (aCons (eC (.int 5)) (aCons (eC (.int 11)) (aCons (eC (.int 12)) (aCons (eC (.int 40)) (aCons (eC (.int 999999999)) (aCons (eUn negD (eC (.int 999999999))) aNil)))))))))))))
    sNil)
    (sSeq (sSet 1 (eFl (eLc (iOf iterD (eOp ixD (eVar 0) (eC (.int 1)))) (gN 2) tYesD (eOp ixD (eVar 2) (eC (.int 1))) [2])))
    (sRet (eFl (eLc (iOf iterD (eOp ixD (eVar 0) (eC (.int 1)))) (gN 2) (cCmp ninB (eOp ixD (eVar 2) (eC (.int 0))) (eVar 1)) (eOp ixD (eVar 2) (eC (.int 0))) [2])))))
def f__law_values : Env → R (PyData) := fnN 2 (b__law_values)
/-! _law_top: 0 ladder, 1 level, 2 value, 3 row -/
def b__law_top : Env → FlR (PyData) :=
  (sSeq (sIf (cCmp eqB (eOp ixD (eVar 0) (eC (.int 0))) (eC (.str "num")))
    (sRet (eOp addD (eCall lenD (aCons (eOp ixD (eVar 0) (eC (.int 1))) aNil)) (eC (.int 1))))
    sNil)
    (sSeq (sSet 1 (eC (.int 0)))
    (sSeq (sSet 2 (eOp ixD (eCallF 1 (f__law_values) (avCons (eVar 0) avNil)) (eC (.int 0))))
    (sSeq (sWhile 1000 (cCmp neB (eVar 2) (eC (.str "*")))
    (sSeq (sSet 2 (eOp ixD (eFl (eLc (iOf iterD (eOp ixD (eVar 0) (eC (.int 1)))) (gN 3) (cCmp eqB (eOp ixD (eVar 3) (eC (.int 0))) (eVar 2)) (eOp ixD (eVar 3) (eC (.int 1))) [3])) (eC (.int 0))))
    (sAug (· + ·) 1 (eC (.int 1)))))
    (sRet (eVar 1))))))
def f__law_top : Env → R (PyData) := fnN 3 (b__law_top)
/-! _law_coarse: 0 ladder, 1 value, 2 level, 3 k, 4 row -/
def b__law_coarse : Env → FlR (PyData) :=
  (sSeq (sIf (cCmp eqB (eVar 2) (eCallF 1 (f__law_top) (avCons (eVar 0) avNil)))
    (sRet (eC (.str "*")))
    sNil)
    (sSeq (sIf (cCmp eqB (eOp ixD (eVar 0) (eC (.int 0))) (eC (.str "num")))
    (sSeq (sIf (cCmp eqB (eVar 2) (eC (.int 0)))
    (sRet (eVar 1))
    sNil)
    (sRet (eOp mulD (eOp divD (eVar 1) (eOp ixD (eOp ixD (eVar 0) (eC (.int 1))) (eOp subD (eVar 2) (eC (.int 1))))) (eOp ixD (eOp ixD (eVar 0) (eC (.int 1))) (eOp subD (eVar 2) (eC (.int 1)))))))
    sNil)
    (sSeq (sFor (iArgs range1 (aCons (eVar 2) aNil)) (gN 3)
    (sSet 1 (eOp ixD (eFl (eLc (iOf iterD (eOp ixD (eVar 0) (eC (.int 1)))) (gN 4) (cCmp eqB (eOp ixD (eVar 4) (eC (.int 0))) (eVar 1)) (eOp ixD (eVar 4) (eC (.int 1))) [4])) (eC (.int 0)))))
    (sRet (eVar 1)))))
def f__law_coarse : Env → R (PyData) := fnN 2 (b__law_coarse)
/-! _law_keys: 0 roll, 1 levels, 2 found, 3 name, 4 publics, 5 k -/
def b__law_keys : Env → FlR (PyData) :=
  (sSeq (sSetL 2 aNil)
    (sSeq (sFor (iOf iterD (eOp ixD (eVar 0) (eC (.int 1)))) (gT 2 (gsCons (gN 3) (gsCons (gN 4) gsNil)))
    (sDo (eMut1 gAppend 2 (eCall tupleD (aCons (eFl (eLc (iArgs range1 (aCons (eCall lenD (aCons (eVar 1) aNil)) aNil)) (gN 5) tYesD (eCallF 3 (f__law_coarse) (avCons (eOp ixD (eOp ixD (eVar 0) (eC (.int 0))) (eVar 5)) (avCons (eOp ixD (eVar 4) (eVar 5)) (avCons (eOp ixD (eVar 1) (eVar 5)) avNil)))) [5])) aNil)))))
    (sRet (eVar 2))))
def f__law_keys : Env → R (PyData) := fnN 4 (b__law_keys)
/-! _law_ladder: 0 bag, 1 steps, 2 step, 3 k, 4 rows, 5 above, 6 names, 7 turned, 8 j -/
def b__law_ladder : Env → FlR (PyData) :=
  (sSeq (sIf (cCmp eqB (eCallF 2 (f__law_draw) (avOwn 0 (avCons (eC (.int 2)) avNil))) (eC (.int 0)))
    (sSeq (sSetL 1 aNil)
    (sSeq (sSet 2 (eC (.int 1)))
    (sSeq (sFor (iArgs range1 (aCons (eCallF 2 (f__law_draw) (avOwn 0 (avCons (eC (.int 4)) avNil))) aNil)) (gN 3)
    (sSeq (sSet 2 (eOp mulD (eVar 2) (eOp addD (eC (.int 2)) (eCallF 2 (f__law_draw) (avOwn 0 (avCons (eC (.int 3)) avNil))))))
    (sDo (eMut1 gAppend 1 (eVar 2)))))
    (sRet (eTup (aCons (eC (.str "num")) (aCons (eCall tupleD (aCons (eVar 1) aNil)) aNil)))))))
    sNil)
    (sSeq (sSet 4 (eLst aNil))
    (sSeq (sSet 5 (eLst (aCons (eC (.str "*")) aNil)))
    (sSeq (sFor (iArgs range1 (aCons (eOp addD (eC (.int 1)) (eCallF 2 (f__law_draw) (avOwn 0 (avCons (eC (.int 3)) avNil)))) aNil)) (gN 3)
    (sSeq (sSet 6 (eFl (eLc (iArgs range1 (aCons (eOp addD (eCall lenD (aCons (eVar 5) aNil)) (eCallF 2 (f__law_draw) (avOwn 0 (avCons (eC (.int 2)) avNil)))) aNil)) (gN 8) tYesD (eOp addD (eOp ixD (eC (.str "abc")) (eVar 3)) (eOp ixD (eC (.str "xyzw")) (eVar 8))) [8])))
    (sSeq (sSet 4 (eOp addD (eVar 4) (eFl (eLc (iArgs range1 (aCons (eCall lenD (aCons (eVar 6) aNil)) aNil)) (gN 8) tYesD (eTup (aCons (eOp ixD (eVar 6) (eVar 8)) (aCons (eOp ixD (eVar 5) (eOp modD (eVar 8) (eCall lenD (aCons (eVar 5) aNil)))) aNil))) [8]))))
    (sSet 5 (eVar 6)))))
    (sSeq (sSet 7 (eSl (eVar 4) (oSome (eCallF 2 (f__law_draw) (avOwn 0 (avCons (eCall lenD (aCons (eVar 4) aNil)) avNil)))) oNone))
    (sRet (eTup (aCons (eC (.str "tree")) (aCons (eCall tupleD (aCons (eOp addD (eVar 7) (eSl (eVar 4) oNone (oSome (eOp subD (eCall lenD (aCons (eVar 4) aNil)) (eCall lenD (aCons (eVar 7) aNil)))))) aNil)) aNil)))))))))
def f__law_ladder : Env → R (PyData) := fnN 8 (b__law_ladder)
/-! _law_roll: 0 bag, 1 persons, 2 kinds, 3 ladders, 4 names, 5 some, 6 k, 7 publics, 8 ladder, 9 values, 10 words, 11 secrets -/
def b__law_roll : Env → FlR (PyData) :=
  (sSeq (sFl 3 (eLc (iArgs range1 (aCons (eOp addD (eC (.int 1)) (eCallF 2 (f__law_draw) (avOwn 0 (avCons (eOp ixD (eLst (aCons (eC (.int 2)) (aCons (eC (.int 2)) (aCons (eC (.int 4)) aNil)))) (eCallF 2 (f__law_draw) (avOwn 0 (avCons (eC (.int 3)) avNil)))) avNil)))) aNil)) (gN 6) tYesD (eCallF 1 (f__law_ladder) (avOwn 0 avNil)) [6]))
    (sSeq (sSetL 4 (aCons (eC (.str "ann")) (aCons (eC (.str "bob")) (aCons (eC (.str "cy")) (aCons (eC (.str "dee")) (aCons (eC (.str "eve")) (aCons (eC (.str "flo")) (aCons (eC (.str "gil")) (aCons (eC (.str "abcdefghijkl")) (aCons (eC (.str "ivo")) aNil))))))))))
    (sSeq (sSetL 5 aNil)
    (sSeq (sFor (iArgs range1 (aCons (eOp addD (eC (.int 1)) (eCallF 2 (f__law_draw) (avOwn 0 (avCons (eVar 1) avNil)))) aNil)) (gN 6)
    (sSeq (sSetL 7 aNil)
    (sSeq (sFor (iOf iterD (eVar 3)) (gN 8)
    (sSeq (sSet 9 (eCallF 1 (f__law_values) (avCons (eVar 8) avNil)))
    (sDo (eMut1 gAppend 7 (eOp ixD (eVar 9) (eCallF 2 (f__law_draw) (avOwn 0 (avCons (eCall lenD (aCons (eVar 9) aNil)) avNil))))))))
    (sDo (eMut1 gAppend 5 (eTup (aCons (eMut1 gPopAt 4 (eCallF 2 (f__law_draw) (avOwn 0 (avCons (eLenO 4) avNil)))) (aCons (eCall tupleD (aCons (eVar 7) aNil)) aNil))))))))
    (sSeq (sSetL 10 (aCons (eC (.str "flu")) (aCons (eC (.str "gout")) (aCons (eC (.str "ache")) (aCons (eC (.str "mumps")) (aCons (eC (.str "rash")) (aCons (eC (.str "zosterzoster")) aNil)))))))
    (sSeq (sSet 11 (eCall sortedD (aCons (eFl (eLc (iArgs range1 (aCons (eOp addD (eC (.int 1)) (eCallF 2 (f__law_draw) (avOwn 0 (avCons (eVar 2) avNil)))) aNil)) (gN 6) tYesD (eMut1 gPopAt 10 (eCallF 2 (f__law_draw) (avOwn 0 (avCons (eLenO 10) avNil)))) [6])) aNil)))
    (sRet (eTup (aCons (eCall tupleD (aCons (eVar 3) aNil)) (aCons (eCall tupleD (aCons (eVar 5) aNil)) (aCons (eCall tupleD (aCons (eVar 11) aNil)) aNil)))))))))))
def f__law_roll : Env → R (PyData) := fnN 9 (b__law_roll)
/-! _law_world: 0 bag, 1 roll, 2 person -/
def b__law_world : Env → FlR (PyData) :=
  (sRet (eCall tupleD (aCons (eFl (eLc (iOf iterD (eOp ixD (eVar 1) (eC (.int 1)))) (gN 2) tYesD (eOp ixD (eOp ixD (eVar 1) (eC (.int 2))) (eCallF 2 (f__law_draw) (avOwn 0 (avCons (eCall lenD (aCons (eOp ixD (eVar 1) (eC (.int 2))) aNil)) avNil)))) [2])) aNil)))
def f__law_world : Env → R (PyData) := fnN 1 (b__law_world)
/-! is_number: 0 thing -/
def b_is_number : Env → FlR (PyData) :=
  (sRet (eAnd (eIsi "int" (eVar 0)) (eNot (eIsi "bool" (eVar 0)))))
def f_is_number : Env → R (PyData) := fnN 0 (b_is_number)
/-! path_up: 0 above, 1 name, 2 path -/
def b_path_up : Env → FlR (PyData) :=
  (sSeq (sSetL 2 (aCons (eVar 1) aNil))
    (sSeq (sWhile 1000 (cAnd (cCmp inB (eIxO 2 (eUn negD (eC (.int 1)))) (eVar 0)) (cCmp leI (eLenO 2) (eCall lenD (aCons (eVar 0) aNil))))
    (sDo (eMut1 gAppend 2 (eOp ixD (eVar 0) (eIxO 2 (eUn negD (eC (.int 1))))))))
    (sRet (eIf (cCmp eqB (eIxO 2 (eUn negD (eC (.int 1)))) (eC (.str "*"))) (eVar 2) (eC .none)))))
def f_path_up : Env → R (PyData) := fnN 1 (b_path_up)
/-! paths_of: 0 ladder, 1 above, 2 heads, 3 name -/
def b_paths_of : Env → FlR (PyData) :=
  (sSeq (sSet 1 (eCall dictD (aCons (eOp ixD (eVar 0) (eC (.int 1))) aNil)))
    (sSeq (sSet 2 (eFl (iOf valsD (eVar 1))))
    (sRet (eFd (eDc (iOf iterD (eVar 1)) (gN 3) (cCmp ninB (eVar 3) (eVar 2)) (eVar 3) (eCallF 2 (f_path_up) (avCons (eVar 1) (avCons (eVar 3) avNil))) [3])))))
def f_paths_of : Env → R (PyData) := fnN 3 (b_paths_of)
/-! levels_of: 0 ladder, 1 path -/
def b_levels_of : Env → FlR (PyData) :=
  (sSeq (sIf (cCmp eqB (eOp ixD (eVar 0) (eC (.int 0))) (eC (.str "num")))
    (sRet (eOp addD (eCall lenD (aCons (eOp ixD (eVar 0) (eC (.int 1))) aNil)) (eC (.int 2))))
    sNil)
    (sRet (eCall maxD (aCons (eFl (eLc (iOf valsD (eCallF 1 (f_paths_of) (avCons (eVar 0) avNil))) (gN 1) tYesD (eCall lenD (aCons (eVar 1) aNil)) [1])) aNil))))
def f_levels_of : Env → R (PyData) := fnN 1 (b_levels_of)
/-! are_levels: 0 ladders, 1 thing, 2 pairs, 3 ladder, 4 level -/
def b_are_levels : Env → FlR (PyData) :=
  (sSeq (sIf (cOr (cNot (cVal (eIsi "tuple" (eVar 1)))) (cCmp neB (eCall lenD (aCons (eVar 1) aNil)) (eCall lenD (aCons (eVar 0) aNil))))
    (sRet (eC (.bool false)))
    sNil)
    (sSeq (sSet 2 (eListZip2 (aCons (eVar 0) (aCons (eVar 1) aNil))))
    (sRet (eCall allD (aCons (eFl (eLc (iOf iterD (eVar 2)) (gT 2 (gsCons (gN 3) (gsCons (gN 4) gsNil))) tYesD (eAnd (eCallF 1 (f_is_number) (avCons (eVar 4) avNil)) (eChain leI ltI (eC (.int 0)) (eVar 4) (eCallF 1 (f_levels_of) (avCons (eVar 3) avNil)))) [3, 4])) aNil)))))
def f_are_levels : Env → R (PyData) := fnN 3 (b_are_levels)
/-! is_level: 0 ladder, 1 level -/
def b_is_level : Env → FlR (PyData) :=
  (sRet (eAnd (eCmp leI (eC (.int 0)) (eVar 1)) (eCmp ltI (eVar 1) (eCallF 1 (f_levels_of) (avCons (eVar 0) avNil)))))
def f_is_level : Env → R (PyData) := fnN 0 (b_is_level)
/-! coarse: 0 ladder, 1 value, 2 level, 3 step -/
def b_coarse : Env → FlR (PyData) :=
  (sSeq (sIf (cNot (cVal (eCallF 2 (f_is_level) (avCons (eVar 0) (avCons (eVar 2) avNil)))))
    (fun _ => .bad)
    sNil)
    (sSeq (sIf (cCmp eqB (eOp ixD (eVar 0) (eC (.int 0))) (eC (.str "tree")))
    (sRet (eOp ixD (eOp ixD (eCallF 1 (f_paths_of) (avCons (eVar 0) avNil)) (eVar 1)) (eVar 2)))
    sNil)
    (sSeq (sIf (cCmp gtI (eVar 2) (eCall lenD (aCons (eOp ixD (eVar 0) (eC (.int 1))) aNil)))
    (sRet (eC (.str "*")))
    sNil)
    (sSeq (sSet 3 (eOp ixD (eOp addD (eTup (aCons (eC (.int 1)) aNil)) (eOp ixD (eVar 0) (eC (.int 1)))) (eVar 2)))
    (sRet (eOp mulD (eOp divD (eVar 1) (eVar 3)) (eVar 3)))))))
def f_coarse : Env → R (PyData) := fnN 1 (b_coarse)
/-! is_at: 0 ladder, 1 thing, 2 level, 3 least, 4 greatest, 5 path -/
def b_is_at : Env → FlR (PyData) :=
  (sSeq (sIf (cCmp eqB (eOp ixD (eVar 0) (eC (.int 0))) (eC (.str "tree")))
    (sRet (eAnd (eIsi "str" (eVar 1)) (eCmp inB (eVar 1) (eFl (eLc (iOf valsD (eCallF 1 (f_paths_of) (avCons (eVar 0) avNil))) (gN 5) tYesD (eOp ixD (eVar 5) (eVar 2)) [5])))))
    sNil)
    (sSeq (sIf (cCmp gtI (eVar 2) (eCall lenD (aCons (eOp ixD (eVar 0) (eC (.int 1))) aNil)))
    (sRet (eAnd (eIsi "str" (eVar 1)) (eCmp eqB (eVar 1) (eC (.str "*")))))
    sNil)
    (sSeq (sIf (cOr (cNot (cVal (eIsi "int" (eVar 1)))) (cVal (eIsi "bool" (eVar 1))))
    (sRet (eC (.bool false)))
    sNil)
    (sSeq (sPar 3 4 (aCons (eCallF 3 (f_coarse) (avCons (eVar 0) (avCons (eOp subD (eC (.int 1)) (eC (.int 1000000000))) (avCons (eVar 2) avNil)))) (aCons (eCallF 3 (f_coarse) (avCons (eVar 0) (avCons (eOp subD (eC (.int 1000000000)) (eC (.int 1))) (avCons (eVar 2) avNil)))) aNil)))
    (sRet (eAnd (eCmp leI (eVar 3) (eVar 1)) (eAnd (eCmp leI (eVar 1) (eVar 4)) (eCmp eqB (eCallF 3 (f_coarse) (avCons (eVar 0) (avCons (eVar 1) (avCons (eVar 2) avNil)))) (eVar 1)))))))))
def f_is_at : Env → R (PyData) := fnN 3 (b_is_at)
/-! is_key: 0 ladders, 1 levels, 2 thing, 3 ladder, 4 level, 5 part -/
def b_is_key : Env → FlR (PyData) :=
  (sSeq (sIf (cOr (cNot (cVal (eIsi "tuple" (eVar 2)))) (cCmp neB (eCall lenD (aCons (eVar 2) aNil)) (eCall lenD (aCons (eVar 0) aNil))))
    (sRet (eC (.bool false)))
    sNil)
    (sRet (eCall allD (aCons (eFl (eLc (iArgs zip3 (aCons (eVar 0) (aCons (eVar 1) (aCons (eVar 2) aNil)))) (gT 3 (gsCons (gN 3) (gsCons (gN 4) (gsCons (gN 5) gsNil)))) tYesD (eCallF 3 (f_is_at) (avCons (eVar 3) (avCons (eVar 5) (avCons (eVar 4) avNil)))) [3, 4, 5])) aNil))))
def f_is_key : Env → R (PyData) := fnN 3 (b_is_key)
/-! is_secret: 0 thing, 1 sign -/
def b_is_secret : Env → FlR (PyData) :=
  (sRet (eAnd (eIsi "str" (eVar 0)) (eAnd (eChain ltI ltI (eC (.int 0)) (eCall lenD (aCons (eVar 0) aNil)) (eC (.int 13))) (eCall allD (aCons (eFl (eLc (iOf iterD (eVar 0)) (gN 1) tYesD (eCmp inB (eVar 1) (eC (.str "abcdefghijklmnopqrstuvwxyz"))) [1])) aNil)))))
def f_is_secret : Env → R (PyData) := fnN 1 (b_is_secret)
/-! is_group: 0 ladders, 1 levels, 2 thing, 3 secret -/
def b_is_group : Env → FlR (PyData) :=
  (sSeq (sIf (cOr (cNot (cVal (eIsi "tuple" (eVar 2)))) (cOr (cCmp neB (eCall lenD (aCons (eVar 2) aNil)) (eC (.int 2))) (cOr (cNot (cVal (eIsi "tuple" (eOp ixD (eVar 2) (eC (.int 1)))))) (cCmp eqB (eOp ixD (eVar 2) (eC (.int 1))) (eTup aNil)))))
    (sRet (eC (.bool false)))
    sNil)
    (sSeq (sIf (cOr (cNot (cVal (eCallF 3 (f_is_key) (avCons (eVar 0) (avCons (eVar 1) (avCons (eOp ixD (eVar 2) (eC (.int 0))) avNil)))))) (cNot (cVal (eCall allD (aCons (eFl (eLc (iOf iterD (eOp ixD (eVar 2) (eC (.int 1)))) (gN 3) tYesD (eCallF 1 (f_is_secret) (avCons (eVar 3) avNil)) [3])) aNil)))))
    (sRet (eC (.bool false)))
    sNil)
    (sRet (eCmp eqB (eCall listD (aCons (eOp ixD (eVar 2) (eC (.int 1))) aNil)) (eCall sortedD (aCons (eOp ixD (eVar 2) (eC (.int 1))) aNil))))))
def f_is_group : Env → R (PyData) := fnN 1 (b_is_group)
/-! is_release: 0 ladders, 1 thing, 2 levels, 3 groups, 4 keys, 5 key, 6 secrets, 7 one, 8 other, 9 group -/
def b_is_release : Env → FlR (PyData) :=
  (sSeq (sIf (cOr (cNot (cVal (eIsi "tuple" (eVar 1)))) (cOr (cCmp neB (eCall lenD (aCons (eVar 1) aNil)) (eC (.int 2))) (cNot (cVal (eIsi "tuple" (eOp ixD (eVar 1) (eC (.int 1))))))))
    (sRet (eC (.bool false)))
    sNil)
    (sSeq (sAsg (eVar 1) (gT 2 (gsCons (gN 2) (gsCons (gN 3) gsNil))))
    (sSeq (sIf (cOr (cNot (cVal (eCallF 2 (f_are_levels) (avCons (eVar 0) (avCons (eVar 2) avNil))))) (cNot (cVal (eCall allD (aCons (eFl (eLc (iOf iterD (eVar 3)) (gN 9) tYesD (eCallF 3 (f_is_group) (avCons (eVar 0) (avCons (eVar 2) (avCons (eVar 9) avNil)))) [9])) aNil)))))
    (sRet (eC (.bool false)))
    sNil)
    (sSeq (sFl 4 (eLc (iOf iterD (eVar 3)) (gT 2 (gsCons (gN 5) (gsCons (gN 6) gsNil))) tYesD (eVar 5) [5, 6]))
    (sRet (eCall allD (aCons (eFl (eLc (iArgs zip2 (aCons (eVar 4) (aCons (eSl (eVar 4) (oSome (eC (.int 1))) oNone) aNil))) (gT 2 (gsCons (gN 7) (gsCons (gN 8) gsNil))) tYesD (eCmp ltB (eVar 7) (eVar 8)) [7, 8])) aNil)))))))
def f_is_release : Env → R (PyData) := fnN 8 (b_is_release)
/-! key_of: 0 ladders, 1 publics, 2 levels, 3 ladder, 4 value, 5 level -/
def b_key_of : Env → FlR (PyData) :=
  (sRet (eCall tupleD (aCons (eFl (eLc (iArgs zip3 (aCons (eVar 0) (aCons (eVar 1) (aCons (eVar 2) aNil)))) (gT 3 (gsCons (gN 3) (gsCons (gN 4) (gsCons (gN 5) gsNil)))) tYesD (eCallF 3 (f_coarse) (avCons (eVar 3) (avCons (eVar 4) (avCons (eVar 5) avNil)))) [3, 4, 5])) aNil)))
def f_key_of : Env → R (PyData) := fnN 3 (b_key_of)
/-! knots_of: 0 roll, 1 releases, 2 ladders, 3 persons, 4 kinds, 5 knots, 6 at, 7 levels, 8 groups, 9 keys, 10 key, 11 secrets, 12 members, 13 name, 14 publics, 15 number, 16 one -/
def b_knots_of : Env → FlR (PyData) :=
  (sSeq (sAsg (eVar 0) (gT 3 (gsCons (gN 2) (gsCons (gN 3) (gsCons (gN 4) gsNil)))))
    (sSeq (sSetL 5 aNil)
    (sSeq (sFor (iArgs enum1 (aCons (eVar 1) aNil)) (gT 2 (gsCons (gN 6) (gsCons (gT 2 (gsCons (gN 7) (gsCons (gN 8) gsNil))) gsNil)))
    (sSeq (sFl 9 (eLc (iOf iterD (eVar 3)) (gT 2 (gsCons (gN 13) (gsCons (gN 14) gsNil))) tYesD (eCallF 3 (f_key_of) (avCons (eVar 2) (avCons (eVar 14) (avCons (eVar 7) avNil)))) [13, 14]))
    (sFor (iOf iterD (eVar 8)) (gT 2 (gsCons (gN 10) (gsCons (gN 11) gsNil)))
    (sSeq (sFl 12 (eLc (iArgs enum1 (aCons (eVar 9) aNil)) (gT 2 (gsCons (gN 15) (gsCons (gN 16) gsNil))) (cCmp eqB (eVar 16) (eVar 10)) (eVar 15) [15, 16]))
    (sDo (eMut1 gAppend 5 (eTup (aCons (eVar 6) (aCons (eVar 10) (aCons (eVar 12) (aCons (eVar 11) aNil)))))))))))
    (sRet (eVar 5)))))
def f_knots_of : Env → R (PyData) := fnN 15 (b_knots_of)
/-! fits: 0 roll, 1 world, 2 releases, 3 at, 4 key, 5 members, 6 secrets, 7 release, 8 number -/
def b_fits : Env → FlR (PyData) :=
  (sSeq (sIf (cNot (cVal (eCall allD (aCons (eFl (eLc (iOf iterD (eVar 2)) (gN 7) tYesD (eCallF 2 (f_is_release) (avCons (eOp ixD (eVar 0) (eC (.int 0))) (avCons (eVar 7) avNil))) [7])) aNil))))
    (sRet (eC (.bool false)))
    sNil)
    (sSeq (sFor (iOf iterD (eCallF 2 (f_knots_of) (avCons (eVar 0) (avCons (eVar 2) avNil)))) (gT 4 (gsCons (gN 3) (gsCons (gN 4) (gsCons (gN 5) (gsCons (gN 6) gsNil)))))
    (sIf (cCmp neB (eCall sortedD (aCons (eFl (eLc (iOf iterD (eVar 5)) (gN 8) tYesD (eOp ixD (eVar 1) (eVar 8)) [8])) aNil)) (eCall listD (aCons (eVar 6) aNil)))
    (sRet (eC (.bool false)))
    sNil))
    (sRet (eC (.bool true)))))
def f_fits : Env → R (PyData) := fnN 6 (b_fits)
/-! Settling.__init__: 0 self, 1 roll, 2 releases, 3 name, 4 publics -/
def b_Settling_init : Env → FlR (PyData) :=
  (sSeq (sFldD 0 0 "names_known" (eFl (eLc (iOf iterD (eOp ixD (eVar 1) (eC (.int 1)))) (gT 2 (gsCons (gN 3) (gsCons (gN 4) gsNil))) tYesD (eVar 3) [3, 4])))
    (sSeq (sFldD 0 0 "kinds_known" (eOp ixD (eVar 1) (eC (.int 2))))
    (sFldD 0 0 "knots" (eCallF 2 (f_knots_of) (avCons (eVar 1) (avCons (eVar 2) avNil))))))
def f_Settling_init : Env → R (PyData) := fnN 2 (b_Settling_init)
/-! Settling.nobody: 0 self, 1 name -/
def b_Settling_nobody : Env → FlR (PyData) :=
  (sRet (eFl (eLc (iOf iterD (eFld 0 0 "names_known")) (gN 1) tYesD (eC .none) [1])))
def f_Settling_nobody : Env → R (PyData) := fnN 1 (b_Settling_nobody)
/-! Settling.settled_more: 0 self, 1 settled, 2 number, 3 secret -/
def b_Settling_settled_more : Env → FlR (PyData) :=
  (sRet (eOp addD (eOp addD (eSl (eVar 1) oNone (oSome (eVar 2))) (eLst (aCons (eVar 3) aNil))) (eSl (eVar 1) (oSome (eOp addD (eVar 2) (eC (.int 1)))) oNone)))
def f_Settling_settled_more : Env → R (PyData) := fnN 0 (b_Settling_settled_more)
/-! is_clash: 0 knot, 1 settled, 2 secret, 3 at, 4 key, 5 members, 6 secrets, 7 having, 8 free, 9 wanted, 10 number, 11 one -/
def b_is_clash : Env → FlR (PyData) :=
  (sSeq (sAsg (eVar 0) (gT 4 (gsCons (gN 3) (gsCons (gN 4) (gsCons (gN 5) (gsCons (gN 6) gsNil))))))
    (sSeq (sSet 7 (eCall lenD (aCons (eFl (eLc (iOf iterD (eVar 5)) (gN 10) (cCmp eqB (eOp ixD (eVar 1) (eVar 10)) (eVar 2)) (eVar 10) [10])) aNil)))
    (sSeq (sSet 8 (eCall lenD (aCons (eFl (eLc (iOf iterD (eVar 5)) (gN 10) (cIsN (eOp ixD (eVar 1) (eVar 10))) (eVar 10) [10])) aNil)))
    (sSeq (sSet 9 (eCall lenD (aCons (eFl (eLc (iOf iterD (eVar 6)) (gN 11) (cCmp eqB (eVar 11) (eVar 2)) (eVar 11) [11])) aNil)))
    (sRet (eOr (eCmp gtI (eVar 7) (eVar 9)) (eCmp ltI (eOp addD (eVar 7) (eVar 8)) (eVar 9))))))))
def f_is_clash : Env → R (PyData) := fnN 9 (b_is_clash)
/-! Settling.first_clash: 0 self, 1 settled, 2 knots, 3 knot, 4 secret -/
def b_Settling_first_clash : Env → FlR (PyData) :=
  (sSeq (sFor (iOf iterD (eVar 2)) (gN 3)
    (sFor (iOf iterD (eSortK (kOr (kSet (eOp ixD (eVar 3) (eC (.int 3)))) (kSet (eFld 0 0 "kinds_known"))))) (gN 4)
    (sIf (cVal (eCallF 3 (f_is_clash) (avCons (eVar 3) (avCons (eVar 1) (avCons (eVar 4) avNil)))))
    (sRet (eTup (aCons (eC (.str "clash")) (aCons (eOp ixD (eVar 3) (eC (.int 0))) (aCons (eOp ixD (eVar 3) (eC (.int 1))) (aCons (eVar 4) aNil))))))
    sNil)))
    (sRet (eC .none)))
def f_Settling_first_clash : Env → R (PyData) := fnN 2 (b_Settling_first_clash)
/-! Settling.next_person: 0 self, 1 settled, 2 left, 3 at, 4 key, 5 members, 6 secrets, 7 free, 8 number, 9 secret -/
def b_Settling_next_person : Env → FlR (PyData) :=
  (sSeq (sFl 2 (eLc (iArgs enum1 (aCons (eVar 1) aNil)) (gT 2 (gsCons (gN 8) (gsCons (gN 9) gsNil))) (cIsN (eVar 9)) (eVar 8) [8, 9]))
    (sSeq (sFor (iOf iterD (eFld 0 0 "knots")) (gT 4 (gsCons (gN 3) (gsCons (gN 4) (gsCons (gN 5) (gsCons (gN 6) gsNil)))))
    (sSeq (sFl 7 (eLc (iOf iterD (eVar 5)) (gN 8) (cIsN (eOp ixD (eVar 1) (eVar 8))) (eVar 8) [8]))
    (sIf (cAnd (cCmp neB (eVar 7) (eLst aNil)) (cCmp ltI (eCall lenD (aCons (eVar 7) aNil)) (eCall lenD (aCons (eVar 2) aNil))))
    (sSet 2 (eVar 7))
    sNil)))
    (sRet (eIf (cCmp neB (eVar 2) (eLst aNil)) (eOp ixD (eVar 2) (eC (.int 0))) (eC .none)))))
def f_Settling_next_person : Env → R (PyData) := fnN 8 (b_Settling_next_person)
/-! Settling.grown: 0 self, 1 settled, 2 knots, 3 clash, 4 number, 5 trees, 6 near, 7 secret, 8 word, 9 found, 10 knot -/
def b_Settling_grown (r_Settling_grown : Env → R PyData) : Env → FlR (PyData) :=
  (sSeq (sSet 3 (eMeth 0 "first_clash" 3 (f_Settling_first_clash) 0 (avCons (eVar 1) (avCons (eVar 2) avNil))))
    (sSeq (sIf (cNotN (eVar 3))
    (sRet (eTup (aCons (eC (.str "tree")) (aCons (eVar 3) aNil))))
    sNil)
    (sSeq (sSet 4 (eMeth 0 "next_person" 2 (f_Settling_next_person) 0 (avCons (eVar 1) avNil)))
    (sSeq (sIf (cIsN (eVar 4))
    (sRet (eTup (aCons (eC (.str "world")) (aCons (eCall tupleD (aCons (eVar 1) aNil)) aNil))))
    sNil)
    (sSeq (sSetL 5 aNil)
    (sSeq (sFl 6 (eLc (iOf iterD (eFld 0 0 "knots")) (gN 10) (cCmp inB (eVar 4) (eOp ixD (eVar 10) (eC (.int 2)))) (eVar 10) [10]))
    (sSeq (sFor (iOf iterD (eFld 0 0 "kinds_known")) (gN 7)
    (sSeq (sAsg (eMeth 0 "grown" 3 (r_Settling_grown) 0 (avCons (eMeth 0 "settled_more" 4 (f_Settling_settled_more) 0 (avCons (eVar 1) (avCons (eVar 4) (avCons (eVar 7) avNil)))) (avCons (eVar 6) avNil))) (gT 2 (gsCons (gN 8) (gsCons (gN 9) gsNil))))
    (sSeq (sIf (cCmp eqB (eVar 8) (eC (.str "world")))
    (sRet (eTup (aCons (eVar 8) (aCons (eVar 9) aNil))))
    sNil)
    (sDo (eMut1 gAppend 5 (eVar 9))))))
    (sRet (eTup (aCons (eC (.str "tree")) (aCons (eTup (aCons (eC (.str "split")) (aCons (eOp ixD (eFld 0 0 "names_known") (eVar 4)) (aCons (eCall tupleD (aCons (eVar 5) aNil)) aNil)))) aNil)))))))))))
def f_Settling_grown : Nat → Env → R (PyData)
  | 0 => fun _ => .bad
  | n + 1 => fnN 8 (b_Settling_grown (f_Settling_grown n))
/-! Settling.world_or_none: 0 self, 1 settled -/
def b_Settling_world_or_none : Env → FlR (PyData) :=
  (sRet (eMeth 0 "grown" 3 (f_Settling_grown 20) 0 (avCons (eVar 1) (avCons (eFld 0 0 "knots") avNil))))
def f_Settling_world_or_none : Env → R (PyData) := fnN 0 (b_Settling_world_or_none)
/-! may_have: 0 roll, 1 releases, 2 settling, 3 names, 4 found, 5 number, 6 name, 7 secret, 8 settled, 9 word, 10 world, 11 one, 12 other, 13 publics -/
def b_may_have : Env → FlR (PyData) :=
  (sSeq (sNew 2 (eMake 0 3 (f_Settling_init) (avCons (eVar 0) (avCons (eVar 1) avNil))))
    (sSeq (sFl 3 (eLc (iOf iterD (eOp ixD (eVar 0) (eC (.int 1)))) (gT 2 (gsCons (gN 6) (gsCons (gN 13) gsNil))) tYesD (eVar 6) [6, 13]))
    (sSeq (sSetDl 4 (eDl (iOf iterD (eVar 3)) (gN 6) (eVar 6) [6]))
    (sSeq (sFor (iArgs enum1 (aCons (eVar 3) aNil)) (gT 2 (gsCons (gN 5) (gsCons (gN 6) gsNil)))
    (sFor (iOf iterD (eOp ixD (eVar 0) (eC (.int 2)))) (gN 7)
    (sIf (cInDl ninB (pVar 7) 4 (pVar 6))
    (sSeq (sSet 8 (eMeth 0 "settled_more" 4 (f_Settling_settled_more) 2 (avCons (eMeth 0 "nobody" 1 (f_Settling_nobody) 2 avNil) (avCons (eVar 5) (avCons (eVar 7) avNil)))))
    (sSeq (sAsg (eMeth 0 "world_or_none" 2 (f_Settling_world_or_none) 2 (avCons (eVar 8) avNil)) (gT 2 (gsCons (gN 9) (gsCons (gN 10) gsNil))))
    (sIf (cCmp eqB (eVar 9) (eC (.str "world")))
    (sFor (iArgs zip2 (aCons (eVar 3) (aCons (eVar 10) aNil))) (gT 2 (gsCons (gN 11) (gsCons (gN 12) gsNil)))
    (sIf (cInDl ninB (pVar 12) 4 (pVar 11))
    (sDo (eAppDl 4 (pVar 11) (pVar 12)))
    sNil))
    sNil)))
    sNil)))
    (sSeq (sIf (cNilDl 4 (pIx (pVar 3) (pC (.int 0))))
    (sRaise 1)
    sNil)
    (sRet (eFd (eDc (iOf iterD (eVar 3)) (gN 6) tYesD (eVar 6) (eSortDl 4 (pVar 6)) [6]))))))))
def f_may_have : Env → R (PyData) := fnN 12 (b_may_have)
/-! Settling.number_named: 0 self, 1 name -/
def b_Settling_number_named : Env → FlR (PyData) :=
  (sRet (eIndex (eFld 0 0 "names_known") (eVar 1)))
def f_Settling_number_named : Env → R (PyData) := fnN 0 (b_Settling_number_named)
/-! is_number: 0 thing -/
def b_is_number_2 : Env → FlR (PyData) :=
  (sRet (eAnd (eIsi "int" (eVar 0)) (eNot (eIsi "bool" (eVar 0)))))
def f_is_number_2 : Env → R (PyData) := fnN 0 (b_is_number_2)
/-! is_same_key: 0 key, 1 thing, 2 part -/
def b_is_same_key : Env → FlR (PyData) :=
  (sSeq (sIf (cOr (cNot (cVal (eIsi "tuple" (eVar 1)))) (cCmp neB (eVar 1) (eVar 0)))
    (sRet (eC (.bool false)))
    sNil)
    (sRet (eNot (eCall anyD (aCons (eFl (eLc (iOf iterD (eVar 1)) (gN 2) tYesD (eIsi "bool" (eVar 2)) [2])) aNil)))))
def f_is_same_key : Env → R (PyData) := fnN 1 (b_is_same_key)
/-! clash_holds: 0 settling, 1 settled, 2 tree, 3 word, 4 at, 5 key, 6 secret, 7 knot -/
def b_clash_holds : Env → FlR (PyData) :=
  (sSeq (sAsg (eVar 2) (gT 4 (gsCons (gN 3) (gsCons (gN 4) (gsCons (gN 5) (gsCons (gN 6) gsNil))))))
    (sSeq (sIf (cOr (cNot (cVal (eCallF 1 (f_is_number_2) (avCons (eVar 4) avNil)))) (cNot (cVal (eIsi "str" (eVar 6)))))
    (sRet (eC (.bool false)))
    sNil)
    (sSeq (sFor (iOf iterD (eFld 0 0 "knots")) (gN 7)
    (sIf (cAnd (cCmp eqB (eOp ixD (eVar 7) (eC (.int 0))) (eVar 4)) (cVal (eCallF 2 (f_is_same_key) (avCons (eOp ixD (eVar 7) (eC (.int 1))) (avCons (eVar 5) avNil)))))
    (sRet (eCallF 3 (f_is_clash) (avCons (eVar 7) (avCons (eVar 1) (avCons (eVar 6) avNil)))))
    sNil))
    (sRet (eC (.bool false))))))
def f_clash_holds : Env → R (PyData) := fnN 5 (b_clash_holds)
/-! split_holds: 0 settling, 1 settled, 2 tree, 3 word, 4 person, 5 trees, 6 number, 7 secret, 8 part -/
def b_split_holds (r_holds : Env → R PyData) : Env → FlR (PyData) :=
  (sSeq (sAsg (eVar 2) (gT 3 (gsCons (gN 3) (gsCons (gN 4) (gsCons (gN 5) gsNil)))))
    (sSeq (sIf (cOr (cNot (cVal (eIsi "str" (eVar 4)))) (cOr (cCmp ninB (eVar 4) (eFld 0 0 "names_known")) (cNot (cVal (eIsi "tuple" (eVar 5))))))
    (sRet (eC (.bool false)))
    sNil)
    (sSeq (sSet 6 (eMeth 0 "number_named" 2 (f_Settling_number_named) 0 (avCons (eVar 4) avNil)))
    (sSeq (sIf (cOr (cNotN (eOp ixD (eVar 1) (eVar 6))) (cCmp neB (eCall lenD (aCons (eVar 5) aNil)) (eCall lenD (aCons (eFld 0 0 "kinds_known") aNil))))
    (sRet (eC (.bool false)))
    sNil)
    (sSeq (sFor (iArgs zip2 (aCons (eFld 0 0 "kinds_known") (aCons (eVar 5) aNil))) (gT 2 (gsCons (gN 7) (gsCons (gN 8) gsNil)))
    (sIf (cNot (cVal (eCallF 3 (r_holds) (avOwn 0 (avCons (eMeth 0 "settled_more" 4 (f_Settling_settled_more) 0 (avCons (eVar 1) (avCons (eVar 6) (avCons (eVar 7) avNil)))) (avCons (eVar 8) avNil))))))
    (sRet (eC (.bool false)))
    sNil))
    (sRet (eC (.bool true))))))))
def f_split_holds (r_holds : Env → R PyData) : Env → R (PyData) := fnN 6 (b_split_holds r_holds)
/-! holds: 0 settling, 1 settled, 2 tree -/
def b_holds (r_split_holds : Env → R PyData) : Env → FlR (PyData) :=
  (sSeq (sIf (cOr (cNot (cVal (eIsi "tuple" (eVar 2)))) (cOr (cCmp ltI (eCall lenD (aCons (eVar 2) aNil)) (eC (.int 3))) (cNot (cVal (eIsi "str" (eOp ixD (eVar 2) (eC (.int 0))))))))
    (sRet (eC (.bool false)))
    sNil)
    (sSeq (sIf (cAnd (cCmp eqB (eOp ixD (eVar 2) (eC (.int 0))) (eC (.str "clash"))) (cCmp eqB (eCall lenD (aCons (eVar 2) aNil)) (eC (.int 4))))
    (sRet (eCallF 3 (f_clash_holds) (avOwn 0 (avCons (eVar 1) (avCons (eVar 2) avNil)))))
    sNil)
    (sRet (eAnd (eCmp eqB (eOp ixD (eVar 2) (eC (.int 0))) (eC (.str "split"))) (eAnd (eCmp eqB (eCall lenD (aCons (eVar 2) aNil)) (eC (.int 3))) (eCallF 3 (r_split_holds) (avOwn 0 (avCons (eVar 1) (avCons (eVar 2) avNil)))))))))
def f_holds : Nat → Env → R (PyData)
  | 0 => fun _ => .bad
  | n + 1 => fnN 0 (b_holds (f_split_holds (f_holds n)))
/-! tree_holds: 0 roll, 1 releases, 2 person, 3 secret, 4 tree, 5 settling, 6 number -/
def b_tree_holds : Env → FlR (PyData) :=
  (sSeq (sNew 5 (eMake 0 3 (f_Settling_init) (avCons (eVar 0) (avCons (eVar 1) avNil))))
    (sSeq (sSet 6 (eMeth 0 "number_named" 2 (f_Settling_number_named) 5 (avCons (eVar 2) avNil)))
    (sRet (eCallF 3 (f_holds 20) (avOwn 5 (avCons (eMeth 0 "settled_more" 4 (f_Settling_settled_more) 5 (avCons (eMeth 0 "nobody" 1 (f_Settling_nobody) 5 avNil) (avCons (eVar 6) (avCons (eVar 3) avNil)))) (avCons (eVar 4) avNil)))))))
def f_tree_holds : Env → R (PyData) := fnN 2 (b_tree_holds)
/-! world_or_tree: 0 roll, 1 releases, 2 person, 3 secret, 4 settling, 5 number -/
def b_world_or_tree : Env → FlR (PyData) :=
  (sSeq (sNew 4 (eMake 0 3 (f_Settling_init) (avCons (eVar 0) (avCons (eVar 1) avNil))))
    (sSeq (sSet 5 (eMeth 0 "number_named" 2 (f_Settling_number_named) 4 (avCons (eVar 2) avNil)))
    (sRet (eMeth 0 "world_or_none" 2 (f_Settling_world_or_none) 4 (avCons (eMeth 0 "settled_more" 4 (f_Settling_settled_more) 4 (avCons (eMeth 0 "nobody" 1 (f_Settling_nobody) 4 avNil) (avCons (eVar 5) (avCons (eVar 3) avNil)))) avNil)))))
def f_world_or_tree : Env → R (PyData) := fnN 2 (b_world_or_tree)
end DL

namespace DL
open PySem PySem.Spec PyProof.Rows L2
/-! _law_empty: 0 bag, 1 roll, 2 levels, 3 ladder -/
def b__law_empty : Env → FlR (PyData) :=
  (sSeq (sSet 2 (eCall tupleD (aCons (eFl (eLc (iOf iterD (eOp ixD (eVar 1) (eC (.int 0)))) (gN 3) tYesD (eCallF 2 (f__law_draw) (avOwn 0 (avCons (eOp addD (eCallF 1 (f__law_top) (avCons (eVar 3) avNil)) (eC (.int 1))) avNil))) [3])) aNil)))
    (sRet (eTup (aCons (eVar 2) (aCons (eTup aNil) aNil)))))
def f__law_empty : Env → R (PyData) := fnN 2 (b__law_empty)
/-! _law_held: 0 bag, 1 roll, 2 releases, 3 world, 4 found, 5 name, 6 k, 7 secret, 8 word, 9 told, 10 key, 11 clash, 12 trees, 13 other, 14 person, 15 tree -/
def b__law_held : Env → FlR (PyData) :=
  (sSeq (sSet 1 (eCallF 3 (f__law_roll) (avOwn 0 (avCons (eC (.int 8)) (avCons (eC (.int 6)) avNil)))))
    (sSeq (sSet 2 (eFl (eLc (iArgs range1 (aCons (eCallF 2 (f__law_draw) (avOwn 0 (avCons (eC (.int 6)) avNil))) aNil)) (gN 6) tYesD (eCallF 2 (f__law_empty) (avOwn 0 (avCons (eVar 1) avNil))) [6])))
    (sSeq (sSet 3 (eCallF 2 (f__law_world) (avOwn 0 (avCons (eVar 1) avNil))))
    (sSeq (sSet 4 (eCallF 2 (f_may_have) (avCons (eVar 1) (avCons (eVar 2) avNil))))
    (sSeq (sIf (cAnd (cDNil true (eVar 4)) (cNot (cVal (eCallF 3 (f_fits) (avCons (eVar 1) (avCons (eVar 3) (avCons (eVar 2) avNil)))))))
    (sRet (eC (.bool false)))
    sNil)
    (sSeq (sIf (cCmp neB (eCall sortedD (aCons (eVar 4) aNil)) (eCall sortedD (aCons (eFl (eLc (iOf iterD (eOp ixD (eVar 1) (eC (.int 1)))) (gN 14) tYesD (eOp ixD (eVar 14) (eC (.int 0))) [14])) aNil)))
    (sRet (eC (.bool false)))
    sNil)
    (sSeq (sFor (iOf iterD (eVar 4)) (gN 5)
    (sIf (cCmp neB (eOp ixD (eVar 4) (eVar 5)) (eCall listD (aCons (eOp ixD (eVar 1) (eC (.int 2))) aNil)))
    (sRet (eC (.bool false)))
    sNil))
    (sSeq (sSet 6 (eCallF 2 (f__law_draw) (avOwn 0 (avCons (eCall lenD (aCons (eOp ixD (eVar 1) (eC (.int 1))) aNil)) avNil))))
    (sSeq (sSet 5 (eOp ixD (eOp ixD (eOp ixD (eVar 1) (eC (.int 1))) (eVar 6)) (eC (.int 0))))
    (sSeq (sSet 7 (eOp ixD (eOp ixD (eVar 1) (eC (.int 2))) (eCallF 2 (f__law_draw) (avOwn 0 (avCons (eCall lenD (aCons (eOp ixD (eVar 1) (eC (.int 2))) aNil)) avNil)))))
    (sSeq (sAsg (eCallF 4 (f_world_or_tree) (avCons (eVar 1) (avCons (eVar 2) (avCons (eVar 5) (avCons (eVar 7) avNil))))) (gT 2 (gsCons (gN 8) (gsCons (gN 9) gsNil))))
    (sSeq (sIf (cOr (cCmp neB (eVar 8) (eC (.str "world"))) (cOr (cCmp neB (eOp ixD (eVar 9) (eVar 6)) (eVar 7)) (cNot (cVal (eCallF 3 (f_fits) (avCons (eVar 1) (avCons (eVar 9) (avCons (eVar 2) avNil))))))))
    (sRet (eC (.bool false)))
    sNil)
    (sSeq (sSet 10 (eOp ixD (eCallF 2 (f__law_keys) (avCons (eVar 1) (avCons (eOp mulD (eLst (aCons (eC (.int 0)) aNil)) (eCall lenD (aCons (eOp ixD (eVar 1) (eC (.int 0))) aNil))) avNil))) (eVar 6)))
    (sSeq (sSet 11 (eTup (aCons (eC (.str "clash")) (aCons (eC (.int 0)) (aCons (eVar 10) (aCons (eVar 7) aNil))))))
    (sSeq (sSetL 12 (aCons (eVar 11) (aCons (eTup (aCons (eC (.str "split")) (aCons (eVar 5) (aCons (eOp mulD (eTup (aCons (eVar 11) aNil)) (eCall lenD (aCons (eOp ixD (eVar 1) (eC (.int 2))) aNil))) aNil)))) (aCons (eTup (aCons (eC (.str "split")) (aCons (eC (.str "nobody")) (aCons (eOp mulD (eTup (aCons (eVar 11) aNil)) (eCall lenD (aCons (eOp ixD (eVar 1) (eC (.int 2))) aNil))) aNil)))) (aCons (eVar 9) (aCons (eTup aNil) aNil))))))
    (sSeq (sSet 13 (eOp ixD (eOp ixD (eOp ixD (eVar 1) (eC (.int 1))) (eC (.int 0))) (eC (.int 0))))
    (sSeq (sDo (eMut1 gAppend 12 (eTup (aCons (eC (.str "split")) (aCons (eVar 13) (aCons (eCall tupleD (aCons (eOp mulD (eLst (aCons (eTup (aCons (eC (.str "split")) (aCons (eVar 13) (aCons (eOp mulD (eTup (aCons (eVar 11) aNil)) (eCall lenD (aCons (eOp ixD (eVar 1) (eC (.int 2))) aNil))) aNil)))) aNil)) (eCall lenD (aCons (eOp ixD (eVar 1) (eC (.int 2))) aNil))) aNil)) aNil))))))
    (sRet (eNot (eCall anyD (aCons (eFl (eLc (iOf iterD (eVar 12)) (gN 15) tYesD (eCallF 5 (f_tree_holds) (avCons (eVar 1) (avCons (eVar 2) (avCons (eVar 5) (avCons (eVar 7) (avCons (eVar 15) avNil)))))) [15])) aNil)))))))))))))))))))))
def f__law_held : Env → R (PyData) := fnN 15 (b__law_held)
/-! law: 0 script, 1 k, 2 cell -/
def b_law : Env → FlR (PyData) :=
  (sSeq (sFor (iArgs enum1 (aCons (eOp addD (eLst (aCons (eCall lenD (aCons (eVar 0) aNil)) aNil)) (eSl (eVar 0) oNone (oSome (eC (.int 20))))) aNil)) (gT 2 (gsCons (gN 1) (gsCons (gN 2) gsNil)))
    (sIf (cNot (cVal (eCallF 1 (f__law_held) (avNew (eCallF 2 f__law_bag (avCons (eVar 2) (avCons (eVar 1) avNil)))))))
    (sRet (eC (.bool false)))
    sNil))
    (sRet (eC (.bool true))))
def f_law : Env → R (PyData) := fnN 2 (b_law)
end DL

namespace DL
open PySem PySem.Spec PyProof.Rows L2
def topS (i : Nat) : Stmt := PySem.Challenge.pw_mistgrid_k50_no_releases.main.body.getD i (.Pass ⟨0, 0, 0, 0⟩)
abbrev s__law_bag : Stmt := topS 40
abbrev N__law_bag : List Str := ["cell", "place"]
abbrev p__law_bag : List Str := ["cell", "place"]
abbrev s__law_draw : Stmt := topS 41
abbrev N__law_draw : List Str := ["bag", "many", "found"]
abbrev p__law_draw : List Str := ["bag", "many"]
abbrev s__law_values : Stmt := topS 43
abbrev N__law_values : List Str := ["ladder", "above", "row"]
abbrev p__law_values : List Str := ["ladder"]
abbrev s__law_top : Stmt := topS 44
abbrev N__law_top : List Str := ["ladder", "level", "value", "row"]
abbrev p__law_top : List Str := ["ladder"]
abbrev s__law_empty : Stmt := topS 49
abbrev N__law_empty : List Str := ["bag", "roll", "levels", "ladder"]
abbrev p__law_empty : List Str := ["bag", "roll"]
abbrev s__law_coarse : Stmt := topS 45
abbrev N__law_coarse : List Str := ["ladder", "value", "level", "k", "row"]
abbrev p__law_coarse : List Str := ["ladder", "value", "level"]
abbrev s__law_keys : Stmt := topS 47
abbrev N__law_keys : List Str := ["roll", "levels", "found", "name", "publics", "k"]
abbrev p__law_keys : List Str := ["roll", "levels"]
abbrev s__law_ladder : Stmt := topS 42
abbrev N__law_ladder : List Str := ["bag", "steps", "step", "k", "rows", "above", "names", "turned", "j"]
abbrev p__law_ladder : List Str := ["bag"]
abbrev s__law_roll : Stmt := topS 46
abbrev N__law_roll : List Str := ["bag", "persons", "kinds", "ladders", "names", "some", "k", "publics", "ladder", "values", "words", "secrets"]
abbrev p__law_roll : List Str := ["bag", "persons", "kinds"]
abbrev s__law_world : Stmt := topS 48
abbrev N__law_world : List Str := ["bag", "roll", "person"]
abbrev p__law_world : List Str := ["bag", "roll"]
abbrev s_is_number : Stmt := topS 15
abbrev N_is_number : List Str := ["thing"]
abbrev p_is_number : List Str := ["thing"]
abbrev s_path_up : Stmt := topS 7
abbrev N_path_up : List Str := ["above", "name", "path"]
abbrev p_path_up : List Str := ["above", "name"]
abbrev s_paths_of : Stmt := topS 8
abbrev N_paths_of : List Str := ["ladder", "above", "heads", "name"]
abbrev p_paths_of : List Str := ["ladder"]
abbrev s_levels_of : Stmt := topS 9
abbrev N_levels_of : List Str := ["ladder", "path"]
abbrev p_levels_of : List Str := ["ladder"]
abbrev s_are_levels : Stmt := topS 20
abbrev N_are_levels : List Str := ["ladders", "thing", "pairs", "ladder", "level"]
abbrev p_are_levels : List Str := ["ladders", "thing"]
abbrev s_is_level : Stmt := topS 10
abbrev N_is_level : List Str := ["ladder", "level"]
abbrev p_is_level : List Str := ["ladder", "level"]
abbrev s_coarse : Stmt := topS 11
abbrev N_coarse : List Str := ["ladder", "value", "level", "step"]
abbrev p_coarse : List Str := ["ladder", "value", "level"]
abbrev s_is_at : Stmt := topS 12
abbrev N_is_at : List Str := ["ladder", "thing", "level", "least", "greatest", "path"]
abbrev p_is_at : List Str := ["ladder", "thing", "level"]
abbrev s_is_key : Stmt := topS 18
abbrev N_is_key : List Str := ["ladders", "levels", "thing", "ladder", "level", "part"]
abbrev p_is_key : List Str := ["ladders", "levels", "thing"]
abbrev s_is_secret : Stmt := topS 17
abbrev N_is_secret : List Str := ["thing", "sign"]
abbrev p_is_secret : List Str := ["thing"]
abbrev s_is_group : Stmt := topS 19
abbrev N_is_group : List Str := ["ladders", "levels", "thing", "secret"]
abbrev p_is_group : List Str := ["ladders", "levels", "thing"]
abbrev s_is_release : Stmt := topS 21
abbrev N_is_release : List Str := ["ladders", "thing", "levels", "groups", "keys", "key", "secrets", "one", "other", "group"]
abbrev p_is_release : List Str := ["ladders", "thing"]
abbrev s_key_of : Stmt := topS 23
abbrev N_key_of : List Str := ["ladders", "publics", "levels", "ladder", "value", "level"]
abbrev p_key_of : List Str := ["ladders", "publics", "levels"]
abbrev s_knots_of : Stmt := topS 24
abbrev N_knots_of : List Str := ["roll", "releases", "ladders", "persons", "kinds", "knots", "at", "levels", "groups", "keys", "key", "secrets", "members", "name", "publics", "number", "one"]
abbrev p_knots_of : List Str := ["roll", "releases"]
abbrev s_fits : Stmt := topS 28
abbrev N_fits : List Str := ["roll", "world", "releases", "at", "key", "members", "secrets", "release", "number"]
abbrev p_fits : List Str := ["roll", "world", "releases"]
abbrev s_Settling_init : Stmt := inClass (topS 26) 0
abbrev N_Settling_init : List Str := ["self", "roll", "releases", "name", "publics"]
abbrev p_Settling_init : List Str := ["self", "roll", "releases"]
abbrev s_Settling_nobody : Stmt := inClass (topS 26) 1
abbrev N_Settling_nobody : List Str := ["self", "name"]
abbrev p_Settling_nobody : List Str := ["self"]
abbrev s_Settling_settled_more : Stmt := inClass (topS 26) 4
abbrev N_Settling_settled_more : List Str := ["self", "settled", "number", "secret"]
abbrev p_Settling_settled_more : List Str := ["self", "settled", "number", "secret"]
abbrev s_is_clash : Stmt := topS 25
abbrev N_is_clash : List Str := ["knot", "settled", "secret", "at", "key", "members", "secrets", "having", "free", "wanted", "number", "one"]
abbrev p_is_clash : List Str := ["knot", "settled", "secret"]
abbrev s_Settling_first_clash : Stmt := inClass (topS 26) 3
abbrev N_Settling_first_clash : List Str := ["self", "settled", "knots", "knot", "secret"]
abbrev p_Settling_first_clash : List Str := ["self", "settled", "knots"]
abbrev s_Settling_next_person : Stmt := inClass (topS 26) 5
abbrev N_Settling_next_person : List Str := ["self", "settled", "left", "at", "key", "members", "secrets", "free", "number", "secret"]
abbrev p_Settling_next_person : List Str := ["self", "settled"]
abbrev s_Settling_grown : Stmt := inClass (topS 26) 7
abbrev N_Settling_grown : List Str := ["self", "settled", "knots", "clash", "number", "trees", "near", "secret", "word", "found", "knot"]
abbrev p_Settling_grown : List Str := ["self", "settled", "knots"]
abbrev s_Settling_world_or_none : Stmt := inClass (topS 26) 6
abbrev N_Settling_world_or_none : List Str := ["self", "settled"]
abbrev p_Settling_world_or_none : List Str := ["self", "settled"]
abbrev s_may_have : Stmt := topS 29
abbrev N_may_have : List Str := ["roll", "releases", "settling", "names", "found", "number", "name", "secret", "settled", "word", "world", "one", "other", "publics"]
abbrev p_may_have : List Str := ["roll", "releases"]
abbrev s_Settling_number_named : Stmt := inClass (topS 26) 2
abbrev N_Settling_number_named : List Str := ["self", "name"]
abbrev p_Settling_number_named : List Str := ["self", "name"]
abbrev s_is_number_2 : Stmt := topS 32
abbrev N_is_number_2 : List Str := ["thing"]
abbrev p_is_number_2 : List Str := ["thing"]
abbrev s_is_same_key : Stmt := topS 34
abbrev N_is_same_key : List Str := ["key", "thing", "part"]
abbrev p_is_same_key : List Str := ["key", "thing"]
abbrev s_clash_holds : Stmt := topS 35
abbrev N_clash_holds : List Str := ["settling", "settled", "tree", "word", "at", "key", "secret", "knot"]
abbrev p_clash_holds : List Str := ["settling", "settled", "tree"]
abbrev s_split_holds : Stmt := topS 36
abbrev N_split_holds : List Str := ["settling", "settled", "tree", "word", "person", "trees", "number", "secret", "part"]
abbrev p_split_holds : List Str := ["settling", "settled", "tree"]
abbrev s_holds : Stmt := topS 37
abbrev N_holds : List Str := ["settling", "settled", "tree"]
abbrev p_holds : List Str := ["settling", "settled", "tree"]
abbrev s_tree_holds : Stmt := topS 38
abbrev N_tree_holds : List Str := ["roll", "releases", "person", "secret", "tree", "settling", "number"]
abbrev p_tree_holds : List Str := ["roll", "releases", "person", "secret", "tree"]
abbrev s_world_or_tree : Stmt := topS 31
abbrev N_world_or_tree : List Str := ["roll", "releases", "person", "secret", "settling", "number"]
abbrev p_world_or_tree : List Str := ["roll", "releases", "person", "secret"]
abbrev s__law_held : Stmt := topS 50
abbrev N__law_held : List Str := ["bag", "roll", "releases", "world", "found", "name", "k", "secret", "word", "told", "key", "clash", "trees", "other", "person", "tree"]
abbrev p__law_held : List Str := ["bag"]
abbrev s_law : Stmt := topS 51
abbrev N_law : List Str := ["script", "k", "cell"]
abbrev p_law : List Str := ["script"]
theorem sc__law_bag : FnScope N__law_bag p__law_bag (defScope s__law_bag) := ⟨rfl, rfl, rfl, by decide +kernel, rfl, by decide +kernel, by decide +kernel⟩
theorem hl__law_bag : N__law_bag.length ≤ lim := by decide
theorem sc__law_draw : FnScope N__law_draw p__law_draw (defScope s__law_draw) := ⟨rfl, rfl, rfl, by decide +kernel, rfl, by decide +kernel, by decide +kernel⟩
theorem hl__law_draw : N__law_draw.length ≤ lim := by decide
theorem sc__law_values : FnScope N__law_values p__law_values (defScope s__law_values) := ⟨rfl, rfl, rfl, by decide +kernel, rfl, by decide +kernel, by decide +kernel⟩
theorem hl__law_values : N__law_values.length ≤ lim := by decide
theorem sc__law_top : FnScope N__law_top p__law_top (defScope s__law_top) := ⟨rfl, rfl, rfl, by decide +kernel, rfl, by decide +kernel, by decide +kernel⟩
theorem hl__law_top : N__law_top.length ≤ lim := by decide
theorem sc__law_empty : FnScope N__law_empty p__law_empty (defScope s__law_empty) := ⟨rfl, rfl, rfl, by decide +kernel, rfl, by decide +kernel, by decide +kernel⟩
theorem hl__law_empty : N__law_empty.length ≤ lim := by decide
theorem sc__law_coarse : FnScope N__law_coarse p__law_coarse (defScope s__law_coarse) := ⟨rfl, rfl, rfl, by decide +kernel, rfl, by decide +kernel, by decide +kernel⟩
theorem hl__law_coarse : N__law_coarse.length ≤ lim := by decide
theorem sc__law_keys : FnScope N__law_keys p__law_keys (defScope s__law_keys) := ⟨rfl, rfl, rfl, by decide +kernel, rfl, by decide +kernel, by decide +kernel⟩
theorem hl__law_keys : N__law_keys.length ≤ lim := by decide
theorem sc__law_ladder : FnScope N__law_ladder p__law_ladder (defScope s__law_ladder) := ⟨rfl, rfl, rfl, by decide +kernel, rfl, by decide +kernel, by decide +kernel⟩
theorem hl__law_ladder : N__law_ladder.length ≤ lim := by decide
theorem sc__law_roll : FnScope N__law_roll p__law_roll (defScope s__law_roll) := ⟨rfl, rfl, rfl, by decide +kernel, rfl, by decide +kernel, by decide +kernel⟩
theorem hl__law_roll : N__law_roll.length ≤ lim := by decide
theorem sc__law_world : FnScope N__law_world p__law_world (defScope s__law_world) := ⟨rfl, rfl, rfl, by decide +kernel, rfl, by decide +kernel, by decide +kernel⟩
theorem hl__law_world : N__law_world.length ≤ lim := by decide
theorem sc_is_number : FnScope N_is_number p_is_number (defScope s_is_number) := ⟨rfl, rfl, rfl, by decide +kernel, rfl, by decide +kernel, by decide +kernel⟩
theorem hl_is_number : N_is_number.length ≤ lim := by decide
theorem sc_path_up : FnScope N_path_up p_path_up (defScope s_path_up) := ⟨rfl, rfl, rfl, by decide +kernel, rfl, by decide +kernel, by decide +kernel⟩
theorem hl_path_up : N_path_up.length ≤ lim := by decide
theorem sc_paths_of : FnScope N_paths_of p_paths_of (defScope s_paths_of) := ⟨rfl, rfl, rfl, by decide +kernel, rfl, by decide +kernel, by decide +kernel⟩
theorem hl_paths_of : N_paths_of.length ≤ lim := by decide
theorem sc_levels_of : FnScope N_levels_of p_levels_of (defScope s_levels_of) := ⟨rfl, rfl, rfl, by decide +kernel, rfl, by decide +kernel, by decide +kernel⟩
theorem hl_levels_of : N_levels_of.length ≤ lim := by decide
theorem sc_are_levels : FnScope N_are_levels p_are_levels (defScope s_are_levels) := ⟨rfl, rfl, rfl, by decide +kernel, rfl, by decide +kernel, by decide +kernel⟩
theorem hl_are_levels : N_are_levels.length ≤ lim := by decide
theorem sc_is_level : FnScope N_is_level p_is_level (defScope s_is_level) := ⟨rfl, rfl, rfl, by decide +kernel, rfl, by decide +kernel, by decide +kernel⟩
theorem hl_is_level : N_is_level.length ≤ lim := by decide
theorem sc_coarse : FnScope N_coarse p_coarse (defScope s_coarse) := ⟨rfl, rfl, rfl, by decide +kernel, rfl, by decide +kernel, by decide +kernel⟩
theorem hl_coarse : N_coarse.length ≤ lim := by decide
theorem sc_is_at : FnScope N_is_at p_is_at (defScope s_is_at) := ⟨rfl, rfl, rfl, by decide +kernel, rfl, by decide +kernel, by decide +kernel⟩
theorem hl_is_at : N_is_at.length ≤ lim := by decide
theorem sc_is_key : FnScope N_is_key p_is_key (defScope s_is_key) := ⟨rfl, rfl, rfl, by decide +kernel, rfl, by decide +kernel, by decide +kernel⟩
theorem hl_is_key : N_is_key.length ≤ lim := by decide
theorem sc_is_secret : FnScope N_is_secret p_is_secret (defScope s_is_secret) := ⟨rfl, rfl, rfl, by decide +kernel, rfl, by decide +kernel, by decide +kernel⟩
theorem hl_is_secret : N_is_secret.length ≤ lim := by decide
theorem sc_is_group : FnScope N_is_group p_is_group (defScope s_is_group) := ⟨rfl, rfl, rfl, by decide +kernel, rfl, by decide +kernel, by decide +kernel⟩
theorem hl_is_group : N_is_group.length ≤ lim := by decide
theorem sc_is_release : FnScope N_is_release p_is_release (defScope s_is_release) := ⟨rfl, rfl, rfl, by decide +kernel, rfl, by decide +kernel, by decide +kernel⟩
theorem hl_is_release : N_is_release.length ≤ lim := by decide
theorem sc_key_of : FnScope N_key_of p_key_of (defScope s_key_of) := ⟨rfl, rfl, rfl, by decide +kernel, rfl, by decide +kernel, by decide +kernel⟩
theorem hl_key_of : N_key_of.length ≤ lim := by decide
theorem sc_knots_of : FnScope N_knots_of p_knots_of (defScope s_knots_of) := ⟨rfl, rfl, rfl, by decide +kernel, rfl, by decide +kernel, by decide +kernel⟩
theorem hl_knots_of : N_knots_of.length ≤ lim := by decide
theorem sc_fits : FnScope N_fits p_fits (defScope s_fits) := ⟨rfl, rfl, rfl, by decide +kernel, rfl, by decide +kernel, by decide +kernel⟩
theorem hl_fits : N_fits.length ≤ lim := by decide
theorem sc_Settling_init : FnScope N_Settling_init p_Settling_init (defScope s_Settling_init) := ⟨rfl, rfl, rfl, by decide +kernel, rfl, by decide +kernel, by decide +kernel⟩
theorem hl_Settling_init : N_Settling_init.length ≤ lim := by decide
theorem sc_Settling_nobody : FnScope N_Settling_nobody p_Settling_nobody (defScope s_Settling_nobody) := ⟨rfl, rfl, rfl, by decide +kernel, rfl, by decide +kernel, by decide +kernel⟩
theorem hl_Settling_nobody : N_Settling_nobody.length ≤ lim := by decide
theorem sc_Settling_settled_more : FnScope N_Settling_settled_more p_Settling_settled_more (defScope s_Settling_settled_more) := ⟨rfl, rfl, rfl, by decide +kernel, rfl, by decide +kernel, by decide +kernel⟩
theorem hl_Settling_settled_more : N_Settling_settled_more.length ≤ lim := by decide
theorem sc_is_clash : FnScope N_is_clash p_is_clash (defScope s_is_clash) := ⟨rfl, rfl, rfl, by decide +kernel, rfl, by decide +kernel, by decide +kernel⟩
theorem hl_is_clash : N_is_clash.length ≤ lim := by decide
theorem sc_Settling_first_clash : FnScope N_Settling_first_clash p_Settling_first_clash (defScope s_Settling_first_clash) := ⟨rfl, rfl, rfl, by decide +kernel, rfl, by decide +kernel, by decide +kernel⟩
theorem hl_Settling_first_clash : N_Settling_first_clash.length ≤ lim := by decide
theorem sc_Settling_next_person : FnScope N_Settling_next_person p_Settling_next_person (defScope s_Settling_next_person) := ⟨rfl, rfl, rfl, by decide +kernel, rfl, by decide +kernel, by decide +kernel⟩
theorem hl_Settling_next_person : N_Settling_next_person.length ≤ lim := by decide
theorem sc_Settling_grown : FnScope N_Settling_grown p_Settling_grown (defScope s_Settling_grown) := ⟨rfl, rfl, rfl, by decide +kernel, rfl, by decide +kernel, by decide +kernel⟩
theorem hl_Settling_grown : N_Settling_grown.length ≤ lim := by decide
theorem sc_Settling_world_or_none : FnScope N_Settling_world_or_none p_Settling_world_or_none (defScope s_Settling_world_or_none) := ⟨rfl, rfl, rfl, by decide +kernel, rfl, by decide +kernel, by decide +kernel⟩
theorem hl_Settling_world_or_none : N_Settling_world_or_none.length ≤ lim := by decide
theorem sc_may_have : FnScope N_may_have p_may_have (defScope s_may_have) := ⟨rfl, rfl, rfl, by decide +kernel, rfl, by decide +kernel, by decide +kernel⟩
theorem hl_may_have : N_may_have.length ≤ lim := by decide
theorem sc_Settling_number_named : FnScope N_Settling_number_named p_Settling_number_named (defScope s_Settling_number_named) := ⟨rfl, rfl, rfl, by decide +kernel, rfl, by decide +kernel, by decide +kernel⟩
theorem hl_Settling_number_named : N_Settling_number_named.length ≤ lim := by decide
theorem sc_is_number_2 : FnScope N_is_number_2 p_is_number_2 (defScope s_is_number_2) := ⟨rfl, rfl, rfl, by decide +kernel, rfl, by decide +kernel, by decide +kernel⟩
theorem hl_is_number_2 : N_is_number_2.length ≤ lim := by decide
theorem sc_is_same_key : FnScope N_is_same_key p_is_same_key (defScope s_is_same_key) := ⟨rfl, rfl, rfl, by decide +kernel, rfl, by decide +kernel, by decide +kernel⟩
theorem hl_is_same_key : N_is_same_key.length ≤ lim := by decide
theorem sc_clash_holds : FnScope N_clash_holds p_clash_holds (defScope s_clash_holds) := ⟨rfl, rfl, rfl, by decide +kernel, rfl, by decide +kernel, by decide +kernel⟩
theorem hl_clash_holds : N_clash_holds.length ≤ lim := by decide
theorem sc_split_holds : FnScope N_split_holds p_split_holds (defScope s_split_holds) := ⟨rfl, rfl, rfl, by decide +kernel, rfl, by decide +kernel, by decide +kernel⟩
theorem hl_split_holds : N_split_holds.length ≤ lim := by decide
theorem sc_holds : FnScope N_holds p_holds (defScope s_holds) := ⟨rfl, rfl, rfl, by decide +kernel, rfl, by decide +kernel, by decide +kernel⟩
theorem hl_holds : N_holds.length ≤ lim := by decide
theorem sc_tree_holds : FnScope N_tree_holds p_tree_holds (defScope s_tree_holds) := ⟨rfl, rfl, rfl, by decide +kernel, rfl, by decide +kernel, by decide +kernel⟩
theorem hl_tree_holds : N_tree_holds.length ≤ lim := by decide
theorem sc_world_or_tree : FnScope N_world_or_tree p_world_or_tree (defScope s_world_or_tree) := ⟨rfl, rfl, rfl, by decide +kernel, rfl, by decide +kernel, by decide +kernel⟩
theorem hl_world_or_tree : N_world_or_tree.length ≤ lim := by decide
theorem sc__law_held : FnScope N__law_held p__law_held (defScope s__law_held) := ⟨rfl, rfl, rfl, by decide +kernel, rfl, by decide +kernel, by decide +kernel⟩
theorem hl__law_held : N__law_held.length ≤ lim := by decide
theorem sc_law : FnScope N_law p_law (defScope s_law) := ⟨rfl, rfl, rfl, by decide +kernel, rfl, by decide +kernel, by decide +kernel⟩
theorem hl_law : N_law.length ≤ lim := by decide
structure Tx (K : PySem.W.Frag) (mg : Str → Option Value) (ct : Nat → Addr) : Prop where
  b_all : mg "all" = none
  b_any : mg "any" = none
  b_bool : mg "bool" = none
  b_dict : mg "dict" = none
  b_enumerate : mg "enumerate" = none
  b_int : mg "int" = none
  b_isinstance : mg "isinstance" = none
  b_len : mg "len" = none
  b_list : mg "list" = none
  b_max : mg "max" = none
  b_range : mg "range" = none
  b_set : mg "set" = none
  b_sorted : mg "sorted" = none
  b_str : mg "str" = none
  b_tuple : mg "tuple" = none
  b_zip : mg "zip" = none
  c_BEYOND : Cst mg "BEYOND" (.int 1000000000)
  c_LETTERS : Cst mg "LETTERS" (.str "abcdefghijklmnopqrstuvwxyz")
  c_STAR : Cst mg "STAR" (.str "*")
  na_Settling_kinds_known : NoAttr K (ct 0) "kinds_known"
  na_Settling_knots : NoAttr K (ct 0) "knots"
  na_Settling_names_known : NoAttr K (ct 0) "names_known"
  x_NoWorld : PySem.W.excIn K (ct 1) [.type "ValueError", .type "Exception", .type "BaseException", .type "object"] "ValueError.__new__" = true
  gx_NoWorld : mg "NoWorld" = some (.ref (ct 1))
  kx_NoWorld : PySem.W.keepIn K (.ref (ct 1)) = true
  bx_NoWorld : PySem.W.subIn K (.ref (ct 1)) (.type "BaseException") = some true
  tx_NoWorld : PySem.W.typeIn K (.ref (ct 1)) = some (.type "type")
  cl_Settling : Cls K (ct 0)
  d__law_bag : DefX K mg "_law_bag" "_law_bag" "_law_bag" s__law_bag p__law_bag
  d__law_draw : DefX K mg "_law_draw" "_law_draw" "_law_draw" s__law_draw p__law_draw
  d__law_values : DefX K mg "_law_values" "_law_values" "_law_values" s__law_values p__law_values
  d__law_top : DefX K mg "_law_top" "_law_top" "_law_top" s__law_top p__law_top
  d__law_empty : DefX K mg "_law_empty" "_law_empty" "_law_empty" s__law_empty p__law_empty
  d__law_coarse : DefX K mg "_law_coarse" "_law_coarse" "_law_coarse" s__law_coarse p__law_coarse
  d__law_keys : DefX K mg "_law_keys" "_law_keys" "_law_keys" s__law_keys p__law_keys
  d__law_ladder : DefX K mg "_law_ladder" "_law_ladder" "_law_ladder" s__law_ladder p__law_ladder
  d__law_roll : DefX K mg "_law_roll" "_law_roll" "_law_roll" s__law_roll p__law_roll
  d__law_world : DefX K mg "_law_world" "_law_world" "_law_world" s__law_world p__law_world
  d_is_number : DefX K mg "is_number_releases" "is_number" "is_number" s_is_number p_is_number
  d_path_up : DefX K mg "path_up" "path_up" "path_up" s_path_up p_path_up
  d_paths_of : DefX K mg "paths_of" "paths_of" "paths_of" s_paths_of p_paths_of
  d_levels_of : DefX K mg "levels_of" "levels_of" "levels_of" s_levels_of p_levels_of
  d_are_levels : DefX K mg "are_levels" "are_levels" "are_levels" s_are_levels p_are_levels
  d_is_level : DefX K mg "is_level" "is_level" "is_level" s_is_level p_is_level
  d_coarse : DefX K mg "coarse" "coarse" "coarse" s_coarse p_coarse
  d_is_at : DefX K mg "is_at" "is_at" "is_at" s_is_at p_is_at
  d_is_key : DefX K mg "is_key" "is_key" "is_key" s_is_key p_is_key
  d_is_secret : DefX K mg "is_secret" "is_secret" "is_secret" s_is_secret p_is_secret
  d_is_group : DefX K mg "is_group" "is_group" "is_group" s_is_group p_is_group
  d_is_release : DefX K mg "is_release" "is_release" "is_release" s_is_release p_is_release
  d_key_of : DefX K mg "key_of" "key_of" "key_of" s_key_of p_key_of
  d_knots_of : DefX K mg "knots_of" "knots_of" "knots_of" s_knots_of p_knots_of
  d_fits : DefX K mg "fits" "fits" "fits" s_fits p_fits
  d_Settling_init : DefI K mg (ct 0) "Settling" "Settling.__init__" s_Settling_init p_Settling_init
  d_Settling_nobody : DefM K (ct 0) "nobody" "Settling.nobody" s_Settling_nobody p_Settling_nobody
  d_Settling_settled_more : DefM K (ct 0) "settled_more" "Settling.settled_more" s_Settling_settled_more p_Settling_settled_more
  d_is_clash : DefX K mg "is_clash" "is_clash" "is_clash" s_is_clash p_is_clash
  d_Settling_first_clash : DefM K (ct 0) "first_clash" "Settling.first_clash" s_Settling_first_clash p_Settling_first_clash
  d_Settling_next_person : DefM K (ct 0) "next_person" "Settling.next_person" s_Settling_next_person p_Settling_next_person
  d_Settling_grown : DefM K (ct 0) "grown" "Settling.grown" s_Settling_grown p_Settling_grown
  d_Settling_world_or_none : DefM K (ct 0) "world_or_none" "Settling.world_or_none" s_Settling_world_or_none p_Settling_world_or_none
  d_may_have : DefX K mg "may_have" "may_have" "may_have" s_may_have p_may_have
  d_Settling_number_named : DefM K (ct 0) "number_named" "Settling.number_named" s_Settling_number_named p_Settling_number_named
  d_is_number_2 : DefX K mg "is_number_trees" "is_number" "is_number" s_is_number_2 p_is_number_2
  d_is_same_key : DefX K mg "is_same_key" "is_same_key" "is_same_key" s_is_same_key p_is_same_key
  d_clash_holds : DefX K mg "clash_holds" "clash_holds" "clash_holds" s_clash_holds p_clash_holds
  d_split_holds : DefX K mg "split_holds" "split_holds" "split_holds" s_split_holds p_split_holds
  d_holds : DefX K mg "holds" "holds" "holds" s_holds p_holds
  d_tree_holds : DefX K mg "tree_holds" "tree_holds" "tree_holds" s_tree_holds p_tree_holds
  d_world_or_tree : DefX K mg "world_or_tree" "world_or_tree" "world_or_tree" s_world_or_tree p_world_or_tree
  d__law_held : DefX K mg "_law_held" "_law_held" "_law_held" s__law_held p__law_held
  d_law : DefX K mg "law" "law" "law" s_law p_law
end DL

namespace DL
open PySem PySem.Spec PyProof.Rows L2
section
variable {P : Program} {w : World} {K : PySem.W.Frag} {mg : Str → Option Value} {base : Heap} {ct : Nat → Addr}
theorem k__law_bag (T : Tx K mg ct) : Cal P w K mg base 1 "_law_bag" p__law_bag (spF K ct (NewL ⟨K, ct, fun _ => 0⟩) 2 f__law_bag) :=
  T.d__law_bag.cal fun F => fun_ok (k := 0) (m := 0) (Sf := b__law_bag) F sc__law_bag rfl fun Pp cdv A outer s H E hr =>
    (ss_one (s_ret (df_lst (da_cons (de_callB (cd_max rfl rfl) (by rfl) T.b_max (by decide +kernel) (da_cons de_int (da_cons (de_op (od_sub) (de_var 0 (pv 0)) (de_op (od_pow) de_int de_int)) da_nil))) (da_cons (de_op (od_mod) (de_op (od_add rfl) (de_op (od_mul rfl) (de_var 0 (pv 0)) de_int) (de_op (od_mul rfl) de_int (de_op (od_add rfl) (de_var 1 (pv 1)) de_int))) de_int) (da_cons (de_var 1 (pv 1)) da_nil))))))
theorem k__law_draw (T : Tx K mg ct) : Cal P w K mg base 1 "_law_draw" p__law_draw (spF K ct (fun G _ _ v d => Dr K G v d) 2 f__law_draw) :=
  T.d__law_draw.cal fun F => fun_okN (k := 0) (m := 1) (Sf := b__law_draw) F sc__law_draw rfl fun Pp cdv A outer s H E hr =>
    (ss_cons (s_if (dt_cmp (od_gtI) (de_ixO rfl (pv 0) de_int (by intro _ _; rfl)) de_int (nomark _))
    (ss_cons (s_set sc__law_draw.nd rfl (.inl rfl) (de_op (od_mod) (de_ixO rfl (pv 0) de_int (by intro _ _; rfl)) (de_var 1 (pv 1))))
    (ss_cons (s_subL (pv 0) de_int (de_op (od_div) (de_ixO rfl (pv 0) de_int (by intro _ _; rfl)) (de_var 1 (pv 1))))
    (ss_one (s_ret (de_var 2 (pv 2))))))
    ss_nil)
    (ss_cons (s_augL (by decide) (by decide) (pv 0) ip_add de_int)
    (ss_cons (s_subL (pv 0) de_int (de_op (od_mod) (de_op (od_add rfl) (de_op (od_add rfl) (de_op (od_mul rfl) (de_ixO rfl (pv 0) de_int (by intro _ _; rfl)) (de_ixO rfl (pv 0) de_int (by intro _ _; rfl))) (de_op (od_mul rfl) de_int (de_ixO rfl (pv 0) de_int (by intro _ _; rfl)))) de_int) de_int))
    (ss_one (s_ret (de_op (od_mod) (de_op (od_div) (de_ixO rfl (pv 0) de_int (by intro _ _; rfl)) de_int) (de_var 1 (pv 1))))))))
theorem k__law_values (T : Tx K mg ct) : Cal P w K mg base 1 "_law_values" p__law_values (spF K ct (fun G _ _ v d => Dr K G v d) 1 f__law_values) :=
  T.d__law_values.cal fun F => fun_okN (k := 0) (m := 2) (Sf := b__law_values) F sc__law_values rfl fun Pp cdv A outer s H E hr =>
    (ss_cons (s_if (dt_cmp (od_eq rfl hr.units) (de_ix rfl hr.units (de_var 0 (pv 0)) de_int (by intro _ _; rfl)) de_str (nomark _))
    (ss_one (s_ret (de_lst (da_cons (de_un od_neg de_int) (da_cons (de_un od_neg de_int) (da_cons de_int (da_cons de_int (da_cons de_int (da_cons de_int (da_cons de_int (da_cons de_int (da_cons de_int (da_cons de_int (da_cons (de_un od_neg de_int) da_nil))))))))))))))
    ss_nil)
    (ss_cons (s_set sc__law_values.nd rfl (.inr rfl) (de_fl hl__law_values (df_lc (own := [("row", 2)]) rfl sc__law_values.nd (di_any rfl (de_ix rfl hr.units (de_var 0 (pv 0)) de_int (by intro _ _; rfl))) (blkOk_by (own := [("row", 2)]) (N := N__law_values) (sc := defScope s__law_values) (by decide +kernel)) (by decide) (fun _ _ _ _ _ => (dg_name sc__law_values.nd rfl (.inl rfl))) (fun _ _ _ _ _ => dts_nil) (fun _ _ _ _ _ => (de_ix rfl hr.units (de_var 2 (pv 2)) de_int (by intro _ _; rfl))))))
    (ss_one (s_ret (de_fl hl__law_values (df_lc (own := [("row", 2)]) rfl sc__law_values.nd (di_any rfl (de_ix rfl hr.units (de_var 0 (pv 0)) de_int (by intro _ _; rfl))) (blkOk_by (own := [("row", 2)]) (N := N__law_values) (sc := defScope s__law_values) (by decide +kernel)) (by decide) (fun _ _ _ _ _ => (dg_name sc__law_values.nd rfl (.inl rfl))) (fun _ _ _ _ _ => (dts_one (dt_cmp (od_nin rfl hr.units) (de_ix rfl hr.units (de_var 2 (pv 2)) de_int (by intro _ _; rfl)) (de_var 1 (pv 1)) (by with_unfolding_all rfl)))) (fun _ _ _ _ _ => (de_ix rfl hr.units (de_var 2 (pv 2)) de_int (by intro _ _; rfl)))))))))
theorem k__law_top (T : Tx K mg ct) : Cal P w K mg base 2 "_law_top" p__law_top (spF K ct (fun G _ _ v d => Dr K G v d) 1 f__law_top) :=
  T.d__law_top.cal fun F => fun_okN (k := 1) (m := 3) (Sf := b__law_top) F sc__law_top rfl fun Pp cdv A outer s H E hr =>
    (ss_cons (s_if (dt_cmp (od_eq rfl hr.units) (de_ix rfl hr.units (de_var 0 (pv 0)) de_int (by intro _ _; rfl)) de_str (nomark _))
    (ss_one (s_ret (de_op (od_add rfl) (de_callB (cd_len rfl) (by rfl) T.b_len (by decide +kernel) (da_cons (de_ix rfl hr.units (de_var 0 (pv 0)) de_int (by intro _ _; rfl)) da_nil)) de_int)))
    ss_nil)
    (ss_cons (s_set sc__law_top.nd rfl (.inl rfl) de_int)
    (ss_cons (s_set sc__law_top.nd rfl (.inr rfl) (de_ix rfl hr.units (de_cal (k__law_values T) (hr.mono (by omega)) (by rfl) (takes_of rfl rfl rfl rfl) hl__law_top (dav_cons (de_var 0 (pv 0)) dav_nil)) de_int (by intro _ _; rfl)))
    (ss_cons (s_while 1000 (passes_of rfl) (dt_cmp (od_ne rfl hr.units) (de_var 2 (pv 2)) de_str (nomark _))
    (ss_cons (s_set sc__law_top.nd rfl (.inr rfl) (de_ix rfl hr.units (de_fl hl__law_top (df_lc (own := [("row", 3)]) rfl sc__law_top.nd (di_any rfl (de_ix rfl hr.units (de_var 0 (pv 0)) de_int (by intro _ _; rfl))) (blkOk_by (own := [("row", 3)]) (N := N__law_top) (sc := defScope s__law_top) (by decide +kernel)) (by decide) (fun _ _ _ _ _ => (dg_name sc__law_top.nd rfl (.inl rfl))) (fun _ _ _ _ _ => (dts_one (dt_cmp (od_eq rfl hr.units) (de_ix rfl hr.units (de_var 3 (pv 3)) de_int (by intro _ _; rfl)) (de_var 2 (pv 2)) (nomark _)))) (fun _ _ _ _ _ => (de_ix rfl hr.units (de_var 3 (pv 3)) de_int (by intro _ _; rfl))))) de_int (by intro _ _; rfl)))
    (ss_one (s_aug sc__law_top.nd rfl (.inl rfl) ip_add de_int))))
    (ss_one (s_ret (de_var 1 (pv 1))))))))
theorem k__law_empty (T : Tx K mg ct) : Cal P w K mg base 3 "_law_empty" p__law_empty (spF K ct (fun G _ _ v d => Dr K G v d) 2 f__law_empty) :=
  T.d__law_empty.cal fun F => fun_okN (k := 2) (m := 2) (Sf := b__law_empty) F sc__law_empty rfl fun Pp cdv A outer s H E hr =>
    (ss_cons (s_set sc__law_empty.nd rfl (.inl rfl) (de_callTy (cd_tuple rfl) (by rfl) T.b_tuple (by decide +kernel) (da_cons (de_fl hl__law_empty (df_lc (own := [("ladder", 3)]) rfl sc__law_empty.nd (di_any rfl (de_ix rfl hr.units (de_var 1 (pv 1)) de_int (by intro _ _; rfl))) (blkOk_by (own := [("ladder", 3)]) (N := N__law_empty) (sc := defScope s__law_empty) (by decide +kernel)) (by decide) (fun _ _ _ _ _ => (dg_name sc__law_empty.nd rfl (.inl rfl))) (fun _ _ _ _ _ => dts_nil) (fun _ _ _ _ _ => (de_cal (k__law_draw T) (hr.mono (by omega)) (by rfl) takes0 hl__law_empty (dav_own (pv 0) (dav_cons (de_op (od_add rfl) (de_cal (k__law_top T) (hr.mono (by omega)) (by rfl) takes0 hl__law_empty (dav_cons (de_var 3 (pv 3)) dav_nil)) de_int) dav_nil)))))) da_nil)))
    (ss_one (s_ret (de_tup (da_cons (de_var 2 (pv 2)) (da_cons (de_tup da_nil) da_nil))))))
theorem k__law_coarse (T : Tx K mg ct) : Cal P w K mg base 3 "_law_coarse" p__law_coarse (spF K ct (fun G _ _ v d => Dr K G v d) 3 f__law_coarse) :=
  T.d__law_coarse.cal fun F => fun_okN (k := 2) (m := 2) (Sf := b__law_coarse) F sc__law_coarse rfl fun Pp cdv A outer s H E hr =>
    (ss_cons (s_if (dt_cmp (od_eq rfl hr.units) (de_var 2 (pv 2)) (de_cal (k__law_top T) (hr.mono (by omega)) (by rfl) (takes_of rfl rfl rfl rfl) hl__law_coarse (dav_cons (de_var 0 (pv 0)) dav_nil)) (nomark _))
    (ss_one (s_ret de_str))
    ss_nil)
    (ss_cons (s_if (dt_cmp (od_eq rfl hr.units) (de_ix rfl hr.units (de_var 0 (pv 0)) de_int (by intro _ _; rfl)) de_str (nomark _))
    (ss_cons (s_if (dt_cmp (od_eq rfl hr.units) (de_var 2 (pv 2)) de_int (nomark _))
    (ss_one (s_ret (de_var 1 (pv 1))))
    ss_nil)
    (ss_one (s_ret (de_op (od_mul rfl) (de_op (od_div) (de_var 1 (pv 1)) (de_ix rfl hr.units (de_ix rfl hr.units (de_var 0 (pv 0)) de_int (by intro _ _; rfl)) (de_op (od_sub) (de_var 2 (pv 2)) de_int) (by intro _ _; rfl))) (de_ix rfl hr.units (de_ix rfl hr.units (de_var 0 (pv 0)) de_int (by intro _ _; rfl)) (de_op (od_sub) (de_var 2 (pv 2)) de_int) (by intro _ _; rfl))))))
    ss_nil)
    (ss_cons (s_for (passes_of rfl) rfl (di_range1 (by rfl) T.b_range (da_cons (de_var 2 (pv 2)) da_nil)) (dg_name sc__law_coarse.nd rfl (.inl rfl))
    (ss_one (s_set sc__law_coarse.nd rfl (.inr rfl) (de_ix rfl hr.units (de_fl hl__law_coarse (df_lc (own := [("row", 4)]) rfl sc__law_coarse.nd (di_any rfl (de_ix rfl hr.units (de_var 0 (pv 0)) de_int (by intro _ _; rfl))) (blkOk_by (own := [("row", 4)]) (N := N__law_coarse) (sc := defScope s__law_coarse) (by decide +kernel)) (by decide) (fun _ _ _ _ _ => (dg_name sc__law_coarse.nd rfl (.inl rfl))) (fun _ _ _ _ _ => (dts_one (dt_cmp (od_eq rfl hr.units) (de_ix rfl hr.units (de_var 4 (pv 4)) de_int (by intro _ _; rfl)) (de_var 1 (pv 1)) (nomark _)))) (fun _ _ _ _ _ => (de_ix rfl hr.units (de_var 4 (pv 4)) de_int (by intro _ _; rfl))))) de_int (by intro _ _; rfl)))))
    (ss_one (s_ret (de_var 1 (pv 1)))))))
theorem k__law_keys (T : Tx K mg ct) : Cal P w K mg base 4 "_law_keys" p__law_keys (spF K ct (fun G _ _ v d => Dr K G v d) 2 f__law_keys) :=
  T.d__law_keys.cal fun F => fun_okN (k := 3) (m := 4) (Sf := b__law_keys) F sc__law_keys rfl fun Pp cdv A outer s H E hr =>
    (ss_cons (s_setL hl__law_keys sc__law_keys.nd rfl (.inl rfl) (df_lst da_nil))
    (ss_cons (s_for (passes_of rfl) rfl (di_any rfl (de_ix rfl hr.units (de_var 0 (pv 0)) de_int (by intro _ _; rfl))) (dg_tup rfl rfl (dgs_cons (dg_name sc__law_keys.nd rfl (.inl rfl)) (dgs_cons (dg_name sc__law_keys.nd rfl (.inr rfl)) dgs_nil)))
    (ss_one (s_expr (de_mut1 PySem.F.slot_list_append PySem.F.type_list_append mt_append r_append (pv 2) (de_callTy (cd_tuple rfl) (by rfl) T.b_tuple (by decide +kernel) (da_cons (de_fl hl__law_keys (df_lc (own := [("k", 5)]) rfl sc__law_keys.nd (di_range1 (by rfl) T.b_range (da_cons (de_callB (cd_len rfl) (by rfl) T.b_len (by decide +kernel) (da_cons (de_var 1 (pv 1)) da_nil)) da_nil)) (blkOk_by (own := [("k", 5)]) (N := N__law_keys) (sc := defScope s__law_keys) (by decide +kernel)) (by decide) (fun _ _ _ _ _ => (dg_name sc__law_keys.nd rfl (.inl rfl))) (fun _ _ _ _ _ => dts_nil) (fun _ _ _ _ _ => (de_cal (k__law_coarse T) (hr.mono (by omega)) (by rfl) takes0 hl__law_keys (dav_cons (de_ix rfl hr.units (de_ix rfl hr.units (de_var 0 (pv 0)) de_int (by intro _ _; rfl)) (de_var 5 (pv 5)) (by intro _ _; rfl)) (dav_cons (de_ix rfl hr.units (de_var 4 (pv 4)) (de_var 5 (pv 5)) (by intro _ _; rfl)) (dav_cons (de_ix rfl hr.units (de_var 1 (pv 1)) (de_var 5 (pv 5)) (by intro _ _; rfl)) dav_nil))))))) da_nil))))))
    (ss_one (s_ret (de_var 2 (pv 2))))))
theorem k__law_ladder (T : Tx K mg ct) : Cal P w K mg base 2 "_law_ladder" p__law_ladder (spF K ct (fun G _ _ v d => Dr K G v d) 1 f__law_ladder) :=
  T.d__law_ladder.cal fun F => fun_okN (k := 1) (m := 8) (Sf := b__law_ladder) F sc__law_ladder rfl fun Pp cdv A outer s H E hr =>
    (ss_cons (s_if (dt_cmp (od_eq rfl hr.units) (de_cal (k__law_draw T) (hr.mono (by omega)) (by rfl) (takes_of rfl rfl rfl rfl) hl__law_ladder (dav_own (pv 0) (dav_cons de_int dav_nil))) de_int (nomark _))
    (ss_cons (s_setL hl__law_ladder sc__law_ladder.nd rfl (.inl rfl) (df_lst da_nil))
    (ss_cons (s_set sc__law_ladder.nd rfl (.inl rfl) de_int)
    (ss_cons (s_for (passes_of rfl) rfl (di_range1 (by rfl) T.b_range (da_cons (de_cal (k__law_draw T) (hr.mono (by omega)) (by rfl) (takes_of rfl rfl rfl rfl) hl__law_ladder (dav_own (pv 0) (dav_cons de_int dav_nil))) da_nil)) (dg_name sc__law_ladder.nd rfl (.inr rfl))
    (ss_cons (s_set sc__law_ladder.nd rfl (.inl rfl) (de_op (od_mul rfl) (de_var 2 (pv 2)) (de_op (od_add rfl) de_int (de_cal (k__law_draw T) (hr.mono (by omega)) (by rfl) (takes_of rfl rfl rfl rfl) hl__law_ladder (dav_own (pv 0) (dav_cons de_int dav_nil))))))
    (ss_one (s_expr (de_mut1 PySem.F.slot_list_append PySem.F.type_list_append mt_append r_append (pv 1) (de_var 2 (pv 2)))))))
    (ss_one (s_ret (de_tup (da_cons de_str (da_cons (de_callTy (cd_tuple rfl) (by rfl) T.b_tuple (by decide +kernel) (da_cons (de_var 1 (pv 1)) da_nil)) da_nil))))))))
    ss_nil)
    (ss_cons (s_set sc__law_ladder.nd rfl (.inl rfl) (de_lst da_nil))
    (ss_cons (s_set sc__law_ladder.nd rfl (.inr rfl) (de_lst (da_cons de_str da_nil)))
    (ss_cons (s_for (passes_of rfl) rfl (di_range1 (by rfl) T.b_range (da_cons (de_op (od_add rfl) de_int (de_cal (k__law_draw T) (hr.mono (by omega)) (by rfl) (takes_of rfl rfl rfl rfl) hl__law_ladder (dav_own (pv 0) (dav_cons de_int dav_nil)))) da_nil)) (dg_name sc__law_ladder.nd rfl (.inr rfl))
    (ss_cons (s_set sc__law_ladder.nd rfl (.inr rfl) (de_fl hl__law_ladder (df_lc (own := [("j", 8)]) rfl sc__law_ladder.nd (di_range1 (by rfl) T.b_range (da_cons (de_op (od_add rfl) (de_callB (cd_len rfl) (by rfl) T.b_len (by decide +kernel) (da_cons (de_var 5 (pv 5)) da_nil)) (de_cal (k__law_draw T) (hr.mono (by omega)) (by rfl) (takes_of rfl rfl rfl rfl) hl__law_ladder (dav_own (pv 0) (dav_cons de_int dav_nil)))) da_nil)) (blkOk_by (own := [("j", 8)]) (N := N__law_ladder) (sc := defScope s__law_ladder) (by decide +kernel)) (by decide) (fun _ _ _ _ _ => (dg_name sc__law_ladder.nd rfl (.inl rfl))) (fun _ _ _ _ _ => dts_nil) (fun _ _ _ _ _ => (de_op (od_add rfl) (de_ix rfl hr.units de_str (de_var 3 (pv 3)) (by intro _ _; rfl)) (de_ix rfl hr.units de_str (de_var 8 (pv 8)) (by intro _ _; rfl)))))))
    (ss_cons (s_set sc__law_ladder.nd rfl (.inl rfl) (de_op (od_add rfl) (de_var 4 (pv 4)) (de_fl hl__law_ladder (df_lc (own := [("j", 8)]) rfl sc__law_ladder.nd (di_range1 (by rfl) T.b_range (da_cons (de_callB (cd_len rfl) (by rfl) T.b_len (by decide +kernel) (da_cons (de_var 6 (pv 6)) da_nil)) da_nil)) (blkOk_by (own := [("j", 8)]) (N := N__law_ladder) (sc := defScope s__law_ladder) (by decide +kernel)) (by decide) (fun _ _ _ _ _ => (dg_name sc__law_ladder.nd rfl (.inl rfl))) (fun _ _ _ _ _ => dts_nil) (fun _ _ _ _ _ => (de_tup (da_cons (de_ix rfl hr.units (de_var 6 (pv 6)) (de_var 8 (pv 8)) (by intro _ _; rfl)) (da_cons (de_ix rfl hr.units (de_var 5 (pv 5)) (de_op (od_mod) (de_var 8 (pv 8)) (de_callB (cd_len rfl) (by rfl) T.b_len (by decide +kernel) (da_cons (de_var 5 (pv 5)) da_nil))) (by intro _ _; rfl)) da_nil))))))))
    (ss_one (s_set sc__law_ladder.nd rfl (.inr rfl) (de_var 6 (pv 6)))))))
    (ss_cons (s_set sc__law_ladder.nd rfl (.inl rfl) (de_sl rfl (de_var 4 (pv 4)) (do_some (de_cal (k__law_draw T) (hr.mono (by omega)) (by rfl) (takes_of rfl rfl rfl rfl) hl__law_ladder (dav_own (pv 0) (dav_cons (de_callB (cd_len rfl) (by rfl) T.b_len (by decide +kernel) (da_cons (de_var 4 (pv 4)) da_nil)) dav_nil)))) do_none))
    (ss_one (s_ret (de_tup (da_cons de_str (da_cons (de_callTy (cd_tuple rfl) (by rfl) T.b_tuple (by decide +kernel) (da_cons (de_op (od_add rfl) (de_var 7 (pv 7)) (de_sl rfl (de_var 4 (pv 4)) do_none (do_some (de_op (od_sub) (de_callB (cd_len rfl) (by rfl) T.b_len (by decide +kernel) (da_cons (de_var 4 (pv 4)) da_nil)) (de_callB (cd_len rfl) (by rfl) T.b_len (by decide +kernel) (da_cons (de_var 7 (pv 7)) da_nil)))))) da_nil)) da_nil))))))))))
theorem k__law_roll (T : Tx K mg ct) : Cal P w K mg base 3 "_law_roll" p__law_roll (spF K ct (fun G _ _ v d => Dr K G v d) 3 f__law_roll) :=
  T.d__law_roll.cal fun F => fun_okN (k := 2) (m := 9) (Sf := b__law_roll) F sc__law_roll rfl fun Pp cdv A outer s H E hr =>
    (ss_cons (s_lcF (i := 3) (own := [("k", 6)]) hl__law_roll rfl sc__law_roll.nd rfl rfl (sw_true rfl rfl (by rfl) (by rfl)) (di_range1 (by rfl) T.b_range (da_cons (de_op (od_add rfl) de_int (de_cal (k__law_draw T) (hr.mono (by omega)) (by rfl) (takes_of rfl rfl rfl rfl) hl__law_roll (dav_own (pv 0) (dav_cons (de_ix rfl hr.units (de_lst (da_cons de_int (da_cons de_int (da_cons de_int da_nil)))) (de_cal (k__law_draw T) (hr.mono (by omega)) (by rfl) (takes_of rfl rfl rfl rfl) hl__law_roll (dav_own (pv 0) (dav_cons de_int dav_nil))) (by intro _ _; rfl)) dav_nil)))) da_nil)) (blkOk_by (own := [("k", 6)]) (N := N__law_roll) (sc := defScope s__law_roll) (by decide +kernel)) (by decide) (fun _ _ _ _ _ => (dg_name sc__law_roll.nd rfl (.inl rfl))) (fun _ _ _ _ _ => dts_nil) (fun _ _ _ _ _ => (de_cal (k__law_ladder T) (hr.mono (by omega)) (by rfl) takes0 hl__law_roll (dav_own (pv 0) dav_nil))))
    (ss_cons (s_setL hl__law_roll sc__law_roll.nd rfl (.inl rfl) (df_lst (da_cons de_str (da_cons de_str (da_cons de_str (da_cons de_str (da_cons de_str (da_cons de_str (da_cons de_str (da_cons de_str (da_cons de_str da_nil)))))))))))
    (ss_cons (s_setL hl__law_roll sc__law_roll.nd rfl (.inl rfl) (df_lst da_nil))
    (ss_cons (s_for (passes_of rfl) rfl (di_range1 (by rfl) T.b_range (da_cons (de_op (od_add rfl) de_int (de_cal (k__law_draw T) (hr.mono (by omega)) (by rfl) (takes_of rfl rfl rfl rfl) hl__law_roll (dav_own (pv 0) (dav_cons (de_var 1 (pv 1)) dav_nil)))) da_nil)) (dg_name sc__law_roll.nd rfl (.inl rfl))
    (ss_cons (s_setL hl__law_roll sc__law_roll.nd rfl (.inl rfl) (df_lst da_nil))
    (ss_cons (s_for (passes_of rfl) rfl (di_any rfl (de_var 3 (pv 3))) (dg_name sc__law_roll.nd rfl (.inl rfl))
    (ss_cons (s_set sc__law_roll.nd rfl (.inl rfl) (de_cal (k__law_values T) (hr.mono (by omega)) (by rfl) (takes_of rfl rfl rfl rfl) hl__law_roll (dav_cons (de_var 8 (pv 8)) dav_nil)))
    (ss_one (s_expr (de_mut1 PySem.F.slot_list_append PySem.F.type_list_append mt_append r_append (pv 7) (de_ix rfl hr.units (de_var 9 (pv 9)) (de_cal (k__law_draw T) (hr.mono (by omega)) (by rfl) (takes_of rfl rfl rfl rfl) hl__law_roll (dav_own (pv 0) (dav_cons (de_callB (cd_len rfl) (by rfl) T.b_len (by decide +kernel) (da_cons (de_var 9 (pv 9)) da_nil)) dav_nil))) (by intro _ _; rfl)))))))
    (ss_one (s_expr (de_mut1 PySem.F.slot_list_append PySem.F.type_list_append mt_append r_append (pv 5) (de_tup (da_cons (de_mut1 PySem.F.slot_list_pop PySem.F.type_list_pop mt_popAt r_popAt (pv 4) (de_cal (k__law_draw T) (hr.mono (by omega)) (by rfl) (takes_of rfl rfl rfl rfl) hl__law_roll (dav_own (pv 0) (dav_cons (de_lenO (by rfl) T.b_len (pv 4)) dav_nil)))) (da_cons (de_callTy (cd_tuple rfl) (by rfl) T.b_tuple (by decide +kernel) (da_cons (de_var 7 (pv 7)) da_nil)) da_nil)))))))))
    (ss_cons (s_setL hl__law_roll sc__law_roll.nd rfl (.inr rfl) (df_lst (da_cons de_str (da_cons de_str (da_cons de_str (da_cons de_str (da_cons de_str (da_cons de_str da_nil))))))))
    (ss_cons (s_set sc__law_roll.nd rfl (.inl rfl) (de_callB (cd_sorted rfl rfl (u80 hr)) (by rfl) T.b_sorted (by decide +kernel) (da_cons (de_fl hl__law_roll (df_lc (own := [("k", 6)]) rfl sc__law_roll.nd (di_range1 (by rfl) T.b_range (da_cons (de_op (od_add rfl) de_int (de_cal (k__law_draw T) (hr.mono (by omega)) (by rfl) (takes_of rfl rfl rfl rfl) hl__law_roll (dav_own (pv 0) (dav_cons (de_var 2 (pv 2)) dav_nil)))) da_nil)) (blkOk_by (own := [("k", 6)]) (N := N__law_roll) (sc := defScope s__law_roll) (by decide +kernel)) (by decide) (fun _ _ _ _ _ => (dg_name sc__law_roll.nd rfl (.inl rfl))) (fun _ _ _ _ _ => dts_nil) (fun _ _ _ _ _ => (de_mut1 PySem.F.slot_list_pop PySem.F.type_list_pop mt_popAt r_popAt (pv 10) (de_cal (k__law_draw T) (hr.mono (by omega)) (by rfl) takes0 hl__law_roll (dav_own (pv 0) (dav_cons (de_lenO (by rfl) T.b_len (pv 10)) dav_nil))))))) da_nil)))
    (ss_one (s_ret (de_tup (da_cons (de_callTy (cd_tuple rfl) (by rfl) T.b_tuple (by decide +kernel) (da_cons (de_var 3 (pv 3)) da_nil)) (da_cons (de_callTy (cd_tuple rfl) (by rfl) T.b_tuple (by decide +kernel) (da_cons (de_var 5 (pv 5)) da_nil)) (da_cons (de_callTy (cd_tuple rfl) (by rfl) T.b_tuple (by decide +kernel) (da_cons (de_var 11 (pv 11)) da_nil)) da_nil))))))))))))
theorem k__law_world (T : Tx K mg ct) : Cal P w K mg base 2 "_law_world" p__law_world (spF K ct (fun G _ _ v d => Dr K G v d) 2 f__law_world) :=
  T.d__law_world.cal fun F => fun_okN (k := 1) (m := 1) (Sf := b__law_world) F sc__law_world rfl fun Pp cdv A outer s H E hr =>
    (ss_one (s_ret (de_callTy (cd_tuple rfl) (by rfl) T.b_tuple (by decide +kernel) (da_cons (de_fl hl__law_world (df_lc (own := [("person", 2)]) rfl sc__law_world.nd (di_any rfl (de_ix rfl hr.units (de_var 1 (pv 1)) de_int (by intro _ _; rfl))) (blkOk_by (own := [("person", 2)]) (N := N__law_world) (sc := defScope s__law_world) (by decide +kernel)) (by decide) (fun _ _ _ _ _ => (dg_name sc__law_world.nd rfl (.inl rfl))) (fun _ _ _ _ _ => dts_nil) (fun _ _ _ _ _ => (de_ix rfl hr.units (de_ix rfl hr.units (de_var 1 (pv 1)) de_int (by intro _ _; rfl)) (de_cal (k__law_draw T) (hr.mono (by omega)) (by rfl) takes0 hl__law_world (dav_own (pv 0) (dav_cons (de_callB (cd_len rfl) (by rfl) T.b_len (by decide +kernel) (da_cons (de_ix rfl hr.units (de_var 1 (pv 1)) de_int (by intro _ _; rfl)) da_nil)) dav_nil))) (by intro _ _; rfl))))) da_nil))))
theorem k_is_number (T : Tx K mg ct) : Cal P w K mg base 1 "is_number_releases" p_is_number (spF K ct (fun G _ _ v d => Dr K G v d) 1 f_is_number) :=
  T.d_is_number.cal fun F => fun_okN (k := 0) (m := 0) (Sf := b_is_number) F sc_is_number rfl fun Pp cdv A outer s H E hr =>
    (ss_one (s_ret (de_and (de_isi rfl (by rfl) T.b_isinstance (by rfl) T.b_int (by decide +kernel) (de_var 0 (pv 0))) (de_one (de_not (de_isi rfl (by rfl) T.b_isinstance (by rfl) T.b_bool (by decide +kernel) (de_var 0 (pv 0))))))))
theorem k_path_up (T : Tx K mg ct) : Cal P w K mg base 1 "path_up" p_path_up (spF K ct (fun G _ _ v d => Dr K G v d) 2 f_path_up) :=
  T.d_path_up.cal fun F => fun_okN (k := 0) (m := 1) (Sf := b_path_up) F sc_path_up rfl fun Pp cdv A outer s H E hr =>
    (ss_cons (s_setL hl_path_up sc_path_up.nd rfl (.inl rfl) (df_lst (da_cons (de_var 1 (pv 1)) da_nil)))
    (ss_cons (s_while 1000 (passes_of rfl) (dt_w (dw_and (dt_cmp (od_in rfl hr.units) (de_ixO rfl (pv 2) (de_un od_neg de_int) (by intro _ _; rfl)) (de_var 0 (pv 0)) (by with_unfolding_all rfl)) (dw_and1 (dt_cmp (od_leI) (de_lenO (by rfl) T.b_len (pv 2)) (de_callB (cd_len rfl) (by rfl) T.b_len (by decide +kernel) (da_cons (de_var 0 (pv 0)) da_nil)) (nomark _)))))
    (ss_one (s_expr (de_mut1 PySem.F.slot_list_append PySem.F.type_list_append mt_append r_append (pv 2) (de_ix rfl hr.units (de_var 0 (pv 0)) (de_ixO rfl (pv 2) (de_un od_neg de_int) (by intro _ _; rfl)) (by intro _ _; rfl))))))
    (ss_one (s_ret (de_if (dt_cmp (od_eq rfl hr.units) (de_ixO rfl (pv 2) (de_un od_neg de_int) (by intro _ _; rfl)) (de_cst T.c_STAR (by rfl)) (nomark _)) (de_var 2 (pv 2)) de_non)))))
theorem k_paths_of (T : Tx K mg ct) : Cal P w K mg base 2 "paths_of" p_paths_of (spF K ct (fun G _ _ v d => Dr K G v d) 1 f_paths_of) :=
  T.d_paths_of.cal fun F => fun_okN (k := 1) (m := 3) (Sf := b_paths_of) F sc_paths_of rfl fun Pp cdv A outer s H E hr =>
    (ss_cons (s_set sc_paths_of.nd rfl (.inr rfl) (de_callTy (cd_dict rfl rfl) (by rfl) T.b_dict (by decide +kernel) (da_cons (de_ix rfl hr.units (de_var 0 (pv 0)) de_int (by intro _ _; rfl)) da_nil)))
    (ss_cons (s_set sc_paths_of.nd rfl (.inr rfl) (de_listVals rfl rfl (by rfl) T.b_list (de_var 1 (pv 1))))
    (ss_one (s_ret (de_fd hl_paths_of (dfd_dc (own := [("name", 3)]) rfl sc_paths_of.nd (di_any rfl (de_var 1 (pv 1))) (blkOk_by (own := [("name", 3)]) (N := N_paths_of) (sc := defScope s_paths_of) (by decide +kernel)) (by decide) (fun _ _ _ _ _ => (dg_name sc_paths_of.nd rfl (.inl rfl))) (fun _ _ _ _ _ => (dts_one (dt_cmp (od_nin rfl hr.units) (de_var 3 (pv 3)) (de_var 2 (pv 2)) (by with_unfolding_all rfl)))) (fun _ _ _ _ _ => (de_var 3 (pv 3))) (fun _ _ _ _ _ => (de_cal (k_path_up T) (hr.mono (by omega)) (by rfl) takes0 hl_paths_of (dav_cons (de_var 1 (pv 1)) (dav_cons (de_var 3 (pv 3)) dav_nil))))))))))
theorem k_levels_of (T : Tx K mg ct) : Cal P w K mg base 3 "levels_of" p_levels_of (spF K ct (fun G _ _ v d => Dr K G v d) 1 f_levels_of) :=
  T.d_levels_of.cal fun F => fun_okN (k := 2) (m := 1) (Sf := b_levels_of) F sc_levels_of rfl fun Pp cdv A outer s H E hr =>
    (ss_cons (s_if (dt_cmp (od_eq rfl hr.units) (de_ix rfl hr.units (de_var 0 (pv 0)) de_int (by intro _ _; rfl)) de_str (nomark _))
    (ss_one (s_ret (de_op (od_add rfl) (de_callB (cd_len rfl) (by rfl) T.b_len (by decide +kernel) (da_cons (de_ix rfl hr.units (de_var 0 (pv 0)) de_int (by intro _ _; rfl)) da_nil)) de_int)))
    ss_nil)
    (ss_one (s_ret (de_callB (cd_max rfl rfl) (by rfl) T.b_max (by decide +kernel) (da_cons (de_fl hl_levels_of (df_lc (own := [("path", 1)]) rfl sc_levels_of.nd (di_vals rfl (de_cal (k_paths_of T) (hr.mono (by omega)) (by rfl) (takes_of rfl rfl rfl rfl) hl_levels_of (dav_cons (de_var 0 (pv 0)) dav_nil))) (blkOk_by (own := [("path", 1)]) (N := N_levels_of) (sc := defScope s_levels_of) (by decide +kernel)) (by decide) (fun _ _ _ _ _ => (dg_name sc_levels_of.nd rfl (.inl rfl))) (fun _ _ _ _ _ => dts_nil) (fun _ _ _ _ _ => (de_callB (cd_len rfl) (by rfl) T.b_len (by decide +kernel) (da_cons (de_var 1 (pv 1)) da_nil))))) da_nil)))))
theorem k_are_levels (T : Tx K mg ct) : Cal P w K mg base 4 "are_levels" p_are_levels (spF K ct (fun G _ _ v d => Dr K G v d) 2 f_are_levels) :=
  T.d_are_levels.cal fun F => fun_okN (k := 3) (m := 3) (Sf := b_are_levels) F sc_are_levels rfl fun Pp cdv A outer s H E hr =>
    (ss_cons (s_if (dt_w (dw_or (dt_not (dt_val (de_isi rfl (by rfl) T.b_isinstance (by rfl) T.b_tuple (by decide +kernel) (de_var 1 (pv 1))))) (dw_or1 (dt_cmp (od_ne rfl hr.units) (de_callB (cd_len rfl) (by rfl) T.b_len (by decide +kernel) (da_cons (de_var 1 (pv 1)) da_nil)) (de_callB (cd_len rfl) (by rfl) T.b_len (by decide +kernel) (da_cons (de_var 0 (pv 0)) da_nil)) (nomark _)))))
    (ss_one (s_ret de_bl))
    ss_nil)
    (ss_cons (s_set sc_are_levels.nd rfl (.inl rfl) (de_lz2 rfl rfl (by rfl) T.b_list (by rfl) T.b_zip (da_cons (de_var 0 (pv 0)) (da_cons (de_var 1 (pv 1)) da_nil))))
    (ss_one (s_ret (de_callB (cd_all rfl rfl) (by rfl) T.b_all (by decide +kernel) (da_cons (de_fl hl_are_levels (df_lc (own := [("ladder", 3), ("level", 4)]) rfl sc_are_levels.nd (di_any rfl (de_var 2 (pv 2))) (blkOk_by (own := [("ladder", 3), ("level", 4)]) (N := N_are_levels) (sc := defScope s_are_levels) (by decide +kernel)) (by decide) (fun _ _ _ _ _ => (dg_tup rfl rfl (dgs_cons (dg_name sc_are_levels.nd rfl (.inl rfl)) (dgs_cons (dg_name sc_are_levels.nd rfl (.inl rfl)) dgs_nil)))) (fun _ _ _ _ _ => dts_nil) (fun _ _ _ _ _ => (de_and (de_cal (k_is_number T) (hr.mono (by omega)) (by rfl) takes0 hl_are_levels (dav_cons (de_var 4 (pv 4)) dav_nil)) (de_one (de_chain (od_leI) (od_ltI) de_int (de_var 4 (pv 4)) (de_cal (k_levels_of T) (hr.mono (by omega)) (by rfl) takes0 hl_are_levels (dav_cons (de_var 3 (pv 3)) dav_nil)))))))) da_nil))))))
theorem k_is_level (T : Tx K mg ct) : Cal P w K mg base 4 "is_level" p_is_level (spF K ct (fun G _ _ v d => Dr K G v d) 2 f_is_level) :=
  T.d_is_level.cal fun F => fun_okN (k := 3) (m := 0) (Sf := b_is_level) F sc_is_level rfl fun Pp cdv A outer s H E hr =>
    (ss_one (s_ret (de_and (de_cmp (od_leI) de_int (de_var 1 (pv 1)) (nomark _)) (de_one (de_cmp (od_ltI) (de_var 1 (pv 1)) (de_cal (k_levels_of T) (hr.mono (by omega)) (by rfl) (takes_of rfl rfl rfl rfl) hl_is_level (dav_cons (de_var 0 (pv 0)) dav_nil)) (nomark _))))))
theorem k_coarse (T : Tx K mg ct) : Cal P w K mg base 5 "coarse" p_coarse (spF K ct (fun G _ _ v d => Dr K G v d) 3 f_coarse) :=
  T.d_coarse.cal fun F => fun_okN (k := 4) (m := 1) (Sf := b_coarse) F sc_coarse rfl fun Pp cdv A outer s H E hr =>
    (ss_cons (s_if (dt_not (dt_val (de_cal (k_is_level T) (hr.mono (by omega)) (by rfl) (takes_of rfl rfl rfl rfl) hl_coarse (dav_cons (de_var 0 (pv 0)) (dav_cons (de_var 2 (pv 2)) dav_nil)))))
    (ss_one s_bad)
    ss_nil)
    (ss_cons (s_if (dt_cmp (od_eq rfl hr.units) (de_ix rfl hr.units (de_var 0 (pv 0)) de_int (by intro _ _; rfl)) de_str (nomark _))
    (ss_one (s_ret (de_ix rfl hr.units (de_ix rfl hr.units (de_cal (k_paths_of T) (hr.mono (by omega)) (by rfl) (takes_of rfl rfl rfl rfl) hl_coarse (dav_cons (de_var 0 (pv 0)) dav_nil)) (de_var 1 (pv 1)) (by intro _ _; rfl)) (de_var 2 (pv 2)) (by intro _ _; rfl))))
    ss_nil)
    (ss_cons (s_if (dt_cmp (od_gtI) (de_var 2 (pv 2)) (de_callB (cd_len rfl) (by rfl) T.b_len (by decide +kernel) (da_cons (de_ix rfl hr.units (de_var 0 (pv 0)) de_int (by intro _ _; rfl)) da_nil)) (nomark _))
    (ss_one (s_ret (de_cst T.c_STAR (by rfl))))
    ss_nil)
    (ss_cons (s_set sc_coarse.nd rfl (.inl rfl) (de_ix rfl hr.units (de_op (od_add rfl) (de_tup (da_cons de_int da_nil)) (de_ix rfl hr.units (de_var 0 (pv 0)) de_int (by intro _ _; rfl))) (de_var 2 (pv 2)) (by intro _ _; rfl)))
    (ss_one (s_ret (de_op (od_mul rfl) (de_op (od_div) (de_var 1 (pv 1)) (de_var 3 (pv 3))) (de_var 3 (pv 3)))))))))
theorem k_is_at (T : Tx K mg ct) : Cal P w K mg base 6 "is_at" p_is_at (spF K ct (fun G _ _ v d => Dr K G v d) 3 f_is_at) :=
  T.d_is_at.cal fun F => fun_okN (k := 5) (m := 3) (Sf := b_is_at) F sc_is_at rfl fun Pp cdv A outer s H E hr =>
    (ss_cons (s_if (dt_cmp (od_eq rfl hr.units) (de_ix rfl hr.units (de_var 0 (pv 0)) de_int (by intro _ _; rfl)) de_str (nomark _))
    (ss_one (s_ret (de_and (de_isi rfl (by rfl) T.b_isinstance (by rfl) T.b_str (by decide +kernel) (de_var 1 (pv 1))) (de_one (de_cmp (od_in rfl hr.units) (de_var 1 (pv 1)) (de_fl hl_is_at (df_lc (own := [("path", 5)]) rfl sc_is_at.nd (di_vals rfl (de_cal (k_paths_of T) (hr.mono (by omega)) (by rfl) (takes_of rfl rfl rfl rfl) hl_is_at (dav_cons (de_var 0 (pv 0)) dav_nil))) (blkOk_by (own := [("path", 5)]) (N := N_is_at) (sc := defScope s_is_at) (by decide +kernel)) (by decide) (fun _ _ _ _ _ => (dg_name sc_is_at.nd rfl (.inl rfl))) (fun _ _ _ _ _ => dts_nil) (fun _ _ _ _ _ => (de_ix rfl hr.units (de_var 5 (pv 5)) (de_var 2 (pv 2)) (by intro _ _; rfl))))) (by with_unfolding_all rfl))))))
    ss_nil)
    (ss_cons (s_if (dt_cmp (od_gtI) (de_var 2 (pv 2)) (de_callB (cd_len rfl) (by rfl) T.b_len (by decide +kernel) (da_cons (de_ix rfl hr.units (de_var 0 (pv 0)) de_int (by intro _ _; rfl)) da_nil)) (nomark _))
    (ss_one (s_ret (de_and (de_isi rfl (by rfl) T.b_isinstance (by rfl) T.b_str (by decide +kernel) (de_var 1 (pv 1))) (de_one (de_cmp (od_eq rfl hr.units) (de_var 1 (pv 1)) (de_cst T.c_STAR (by rfl)) (nomark _))))))
    ss_nil)
    (ss_cons (s_if (dt_w (dw_or (dt_not (dt_val (de_isi rfl (by rfl) T.b_isinstance (by rfl) T.b_int (by decide +kernel) (de_var 1 (pv 1))))) (dw_or1 (dt_val (de_isi rfl (by rfl) T.b_isinstance (by rfl) T.b_bool (by decide +kernel) (de_var 1 (pv 1)))))))
    (ss_one (s_ret de_bl))
    ss_nil)
    (ss_cons (s_par rfl sc_is_at.nd rfl rfl (by decide) rfl rfl (da_cons (de_cal (k_coarse T) (hr.mono (by omega)) (by rfl) (takes_of rfl rfl rfl rfl) hl_is_at (dav_cons (de_var 0 (pv 0)) (dav_cons (de_op (od_sub) de_int (de_cst T.c_BEYOND (by rfl))) (dav_cons (de_var 2 (pv 2)) dav_nil)))) (da_cons (de_cal (k_coarse T) (hr.mono (by omega)) (by rfl) (takes_of rfl rfl rfl rfl) hl_is_at (dav_cons (de_var 0 (pv 0)) (dav_cons (de_op (od_sub) (de_cst T.c_BEYOND (by rfl)) de_int) (dav_cons (de_var 2 (pv 2)) dav_nil)))) da_nil)))
    (ss_one (s_ret (de_and (de_cmp (od_leI) (de_var 3 (pv 3)) (de_var 1 (pv 1)) (nomark _)) (de_and (de_cmp (od_leI) (de_var 1 (pv 1)) (de_var 4 (pv 4)) (nomark _)) (de_one (de_cmp (od_eq rfl hr.units) (de_cal (k_coarse T) (hr.mono (by omega)) (by rfl) (takes_of rfl rfl rfl rfl) hl_is_at (dav_cons (de_var 0 (pv 0)) (dav_cons (de_var 1 (pv 1)) (dav_cons (de_var 2 (pv 2)) dav_nil)))) (de_var 1 (pv 1)) (nomark _)))))))))))
theorem k_is_key (T : Tx K mg ct) : Cal P w K mg base 7 "is_key" p_is_key (spF K ct (fun G _ _ v d => Dr K G v d) 3 f_is_key) :=
  T.d_is_key.cal fun F => fun_okN (k := 6) (m := 3) (Sf := b_is_key) F sc_is_key rfl fun Pp cdv A outer s H E hr =>
    (ss_cons (s_if (dt_w (dw_or (dt_not (dt_val (de_isi rfl (by rfl) T.b_isinstance (by rfl) T.b_tuple (by decide +kernel) (de_var 2 (pv 2))))) (dw_or1 (dt_cmp (od_ne rfl hr.units) (de_callB (cd_len rfl) (by rfl) T.b_len (by decide +kernel) (da_cons (de_var 2 (pv 2)) da_nil)) (de_callB (cd_len rfl) (by rfl) T.b_len (by decide +kernel) (da_cons (de_var 0 (pv 0)) da_nil)) (nomark _)))))
    (ss_one (s_ret de_bl))
    ss_nil)
    (ss_one (s_ret (de_callB (cd_all rfl rfl) (by rfl) T.b_all (by decide +kernel) (da_cons (de_fl hl_is_key (df_lc (own := [("ladder", 3), ("level", 4), ("part", 5)]) rfl sc_is_key.nd (di_zip3 rfl (by rfl) T.b_zip (da_cons (de_var 0 (pv 0)) (da_cons (de_var 1 (pv 1)) (da_cons (de_var 2 (pv 2)) da_nil)))) (blkOk_by (own := [("ladder", 3), ("level", 4), ("part", 5)]) (N := N_is_key) (sc := defScope s_is_key) (by decide +kernel)) (by decide) (fun _ _ _ _ _ => (dg_tup rfl rfl (dgs_cons (dg_name sc_is_key.nd rfl (.inl rfl)) (dgs_cons (dg_name sc_is_key.nd rfl (.inl rfl)) (dgs_cons (dg_name sc_is_key.nd rfl (.inl rfl)) dgs_nil))))) (fun _ _ _ _ _ => dts_nil) (fun _ _ _ _ _ => (de_cal (k_is_at T) (hr.mono (by omega)) (by rfl) takes0 hl_is_key (dav_cons (de_var 3 (pv 3)) (dav_cons (de_var 5 (pv 5)) (dav_cons (de_var 4 (pv 4)) dav_nil))))))) da_nil)))))
theorem k_is_secret (T : Tx K mg ct) : Cal P w K mg base 1 "is_secret" p_is_secret (spF K ct (fun G _ _ v d => Dr K G v d) 1 f_is_secret) :=
  T.d_is_secret.cal fun F => fun_okN (k := 0) (m := 1) (Sf := b_is_secret) F sc_is_secret rfl fun Pp cdv A outer s H E hr =>
    (ss_one (s_ret (de_and (de_isi rfl (by rfl) T.b_isinstance (by rfl) T.b_str (by decide +kernel) (de_var 0 (pv 0))) (de_and (de_chain (od_ltI) (od_ltI) de_int (de_callB (cd_len rfl) (by rfl) T.b_len (by decide +kernel) (da_cons (de_var 0 (pv 0)) da_nil)) de_int) (de_one (de_callB (cd_all rfl rfl) (by rfl) T.b_all (by decide +kernel) (da_cons (de_fl hl_is_secret (df_lc (own := [("sign", 1)]) rfl sc_is_secret.nd (di_any rfl (de_var 0 (pv 0))) (blkOk_by (own := [("sign", 1)]) (N := N_is_secret) (sc := defScope s_is_secret) (by decide +kernel)) (by decide) (fun _ _ _ _ _ => (dg_name sc_is_secret.nd rfl (.inl rfl))) (fun _ _ _ _ _ => dts_nil) (fun _ _ _ _ _ => (de_cmp (od_in rfl hr.units) (de_var 1 (pv 1)) (de_cst T.c_LETTERS (by rfl)) (by with_unfolding_all rfl))))) da_nil)))))))
theorem k_is_group (T : Tx K mg ct) : Cal P w K mg base 8 "is_group" p_is_group (spF K ct (fun G _ _ v d => Dr K G v d) 3 f_is_group) :=
  T.d_is_group.cal fun F => fun_okN (k := 7) (m := 1) (Sf := b_is_group) F sc_is_group rfl fun Pp cdv A outer s H E hr =>
    (ss_cons (s_if (dt_w (dw_or (dt_not (dt_val (de_isi rfl (by rfl) T.b_isinstance (by rfl) T.b_tuple (by decide +kernel) (de_var 2 (pv 2))))) (dw_or (dt_cmp (od_ne rfl hr.units) (de_callB (cd_len rfl) (by rfl) T.b_len (by decide +kernel) (da_cons (de_var 2 (pv 2)) da_nil)) de_int (nomark _)) (dw_or (dt_not (dt_val (de_isi rfl (by rfl) T.b_isinstance (by rfl) T.b_tuple (by decide +kernel) (de_ix rfl hr.units (de_var 2 (pv 2)) de_int (by intro _ _; rfl))))) (dw_or1 (dt_cmp (od_eq rfl hr.units) (de_ix rfl hr.units (de_var 2 (pv 2)) de_int (by intro _ _; rfl)) (de_tup da_nil) (nomark _)))))))
    (ss_one (s_ret de_bl))
    ss_nil)
    (ss_cons (s_if (dt_w (dw_or (dt_not (dt_val (de_cal (k_is_key T) (hr.mono (by omega)) (by rfl) (takes_of rfl rfl rfl rfl) hl_is_group (dav_cons (de_var 0 (pv 0)) (dav_cons (de_var 1 (pv 1)) (dav_cons (de_ix rfl hr.units (de_var 2 (pv 2)) de_int (by intro _ _; rfl)) dav_nil)))))) (dw_or1 (dt_not (dt_val (de_callB (cd_all rfl rfl) (by rfl) T.b_all (by decide +kernel) (da_cons (de_fl hl_is_group (df_lc (own := [("secret", 3)]) rfl sc_is_group.nd (di_any rfl (de_ix rfl hr.units (de_var 2 (pv 2)) de_int (by intro _ _; rfl))) (blkOk_by (own := [("secret", 3)]) (N := N_is_group) (sc := defScope s_is_group) (by decide +kernel)) (by decide) (fun _ _ _ _ _ => (dg_name sc_is_group.nd rfl (.inl rfl))) (fun _ _ _ _ _ => dts_nil) (fun _ _ _ _ _ => (de_cal (k_is_secret T) (hr.mono (by omega)) (by rfl) takes0 hl_is_group (dav_cons (de_var 3 (pv 3)) dav_nil))))) da_nil)))))))
    (ss_one (s_ret de_bl))
    ss_nil)
    (ss_one (s_ret (de_cmp (od_eq rfl hr.units) (de_callTy (cd_list rfl) (by rfl) T.b_list (by decide +kernel) (da_cons (de_ix rfl hr.units (de_var 2 (pv 2)) de_int (by intro _ _; rfl)) da_nil)) (de_callB (cd_sorted rfl rfl (u80 hr)) (by rfl) T.b_sorted (by decide +kernel) (da_cons (de_ix rfl hr.units (de_var 2 (pv 2)) de_int (by intro _ _; rfl)) da_nil)) (nomark _))))))
theorem k_is_release (T : Tx K mg ct) : Cal P w K mg base 9 "is_release" p_is_release (spF K ct (fun G _ _ v d => Dr K G v d) 2 f_is_release) :=
  T.d_is_release.cal fun F => fun_okN (k := 8) (m := 8) (Sf := b_is_release) F sc_is_release rfl fun Pp cdv A outer s H E hr =>
    (ss_cons (s_if (dt_w (dw_or (dt_not (dt_val (de_isi rfl (by rfl) T.b_isinstance (by rfl) T.b_tuple (by decide +kernel) (de_var 1 (pv 1))))) (dw_or (dt_cmp (od_ne rfl hr.units) (de_callB (cd_len rfl) (by rfl) T.b_len (by decide +kernel) (da_cons (de_var 1 (pv 1)) da_nil)) de_int (nomark _)) (dw_or1 (dt_not (dt_val (de_isi rfl (by rfl) T.b_isinstance (by rfl) T.b_tuple (by decide +kernel) (de_ix rfl hr.units (de_var 1 (pv 1)) de_int (by intro _ _; rfl)))))))))
    (ss_one (s_ret de_bl))
    ss_nil)
    (ss_cons (s_asg (de_var 1 (pv 1)) (dg_tup rfl rfl (dgs_cons (dg_name sc_is_release.nd rfl (.inr rfl)) (dgs_cons (dg_name sc_is_release.nd rfl (.inl rfl)) dgs_nil))))
    (ss_cons (s_if (dt_w (dw_or (dt_not (dt_val (de_cal (k_are_levels T) (hr.mono (by omega)) (by rfl) (takes_of rfl rfl rfl rfl) hl_is_release (dav_cons (de_var 0 (pv 0)) (dav_cons (de_var 2 (pv 2)) dav_nil))))) (dw_or1 (dt_not (dt_val (de_callB (cd_all rfl rfl) (by rfl) T.b_all (by decide +kernel) (da_cons (de_fl hl_is_release (df_lc (own := [("group", 9)]) rfl sc_is_release.nd (di_any rfl (de_var 3 (pv 3))) (blkOk_by (own := [("group", 9)]) (N := N_is_release) (sc := defScope s_is_release) (by decide +kernel)) (by decide) (fun _ _ _ _ _ => (dg_name sc_is_release.nd rfl (.inl rfl))) (fun _ _ _ _ _ => dts_nil) (fun _ _ _ _ _ => (de_cal (k_is_group T) (hr.mono (by omega)) (by rfl) takes0 hl_is_release (dav_cons (de_var 0 (pv 0)) (dav_cons (de_var 2 (pv 2)) (dav_cons (de_var 9 (pv 9)) dav_nil))))))) da_nil)))))))
    (ss_one (s_ret de_bl))
    ss_nil)
    (ss_cons (s_lcF (i := 4) (own := [("key", 5), ("secrets", 6)]) hl_is_release rfl sc_is_release.nd rfl rfl (sw_true rfl rfl (by rfl) (by rfl)) (di_any rfl (de_var 3 (pv 3))) (blkOk_by (own := [("key", 5), ("secrets", 6)]) (N := N_is_release) (sc := defScope s_is_release) (by decide +kernel)) (by decide) (fun _ _ _ _ _ => (dg_tup rfl rfl (dgs_cons (dg_name sc_is_release.nd rfl (.inl rfl)) (dgs_cons (dg_name sc_is_release.nd rfl (.inl rfl)) dgs_nil)))) (fun _ _ _ _ _ => dts_nil) (fun _ _ _ _ _ => (de_var 5 (pv 5))))
    (ss_one (s_ret (de_callB (cd_all rfl rfl) (by rfl) T.b_all (by decide +kernel) (da_cons (de_fl hl_is_release (df_lc (own := [("one", 7), ("other", 8)]) rfl sc_is_release.nd (di_zip2 rfl (by rfl) T.b_zip (da_cons (de_var 4 (pv 4)) (da_cons (de_sl rfl (de_var 4 (pv 4)) (do_some de_int) do_none) da_nil))) (blkOk_by (own := [("one", 7), ("other", 8)]) (N := N_is_release) (sc := defScope s_is_release) (by decide +kernel)) (by decide) (fun _ _ _ _ _ => (dg_tup rfl rfl (dgs_cons (dg_name sc_is_release.nd rfl (.inl rfl)) (dgs_cons (dg_name sc_is_release.nd rfl (.inl rfl)) dgs_nil)))) (fun _ _ _ _ _ => dts_nil) (fun _ _ _ _ _ => (de_cmp (od_lt rfl hr.units) (de_var 7 (pv 7)) (de_var 8 (pv 8)) (nomark _))))) da_nil))))))))
theorem k_key_of (T : Tx K mg ct) : Cal P w K mg base 6 "key_of" p_key_of (spF K ct (fun G _ _ v d => Dr K G v d) 3 f_key_of) :=
  T.d_key_of.cal fun F => fun_okN (k := 5) (m := 3) (Sf := b_key_of) F sc_key_of rfl fun Pp cdv A outer s H E hr =>
    (ss_one (s_ret (de_callTy (cd_tuple rfl) (by rfl) T.b_tuple (by decide +kernel) (da_cons (de_fl hl_key_of (df_lc (own := [("ladder", 3), ("value", 4), ("level", 5)]) rfl sc_key_of.nd (di_zip3 rfl (by rfl) T.b_zip (da_cons (de_var 0 (pv 0)) (da_cons (de_var 1 (pv 1)) (da_cons (de_var 2 (pv 2)) da_nil)))) (blkOk_by (own := [("ladder", 3), ("value", 4), ("level", 5)]) (N := N_key_of) (sc := defScope s_key_of) (by decide +kernel)) (by decide) (fun _ _ _ _ _ => (dg_tup rfl rfl (dgs_cons (dg_name sc_key_of.nd rfl (.inl rfl)) (dgs_cons (dg_name sc_key_of.nd rfl (.inl rfl)) (dgs_cons (dg_name sc_key_of.nd rfl (.inl rfl)) dgs_nil))))) (fun _ _ _ _ _ => dts_nil) (fun _ _ _ _ _ => (de_cal (k_coarse T) (hr.mono (by omega)) (by rfl) takes0 hl_key_of (dav_cons (de_var 3 (pv 3)) (dav_cons (de_var 4 (pv 4)) (dav_cons (de_var 5 (pv 5)) dav_nil))))))) da_nil))))
theorem k_knots_of (T : Tx K mg ct) : Cal P w K mg base 7 "knots_of" p_knots_of (spF K ct (fun G _ _ v d => Dr K G v d) 2 f_knots_of) :=
  T.d_knots_of.cal fun F => fun_okN (k := 6) (m := 15) (Sf := b_knots_of) F sc_knots_of rfl fun Pp cdv A outer s H E hr =>
    (ss_cons (s_asg (de_var 0 (pv 0)) (dg_tup rfl rfl (dgs_cons (dg_name sc_knots_of.nd rfl (.inr rfl)) (dgs_cons (dg_name sc_knots_of.nd rfl (.inl rfl)) (dgs_cons (dg_name sc_knots_of.nd rfl (.inl rfl)) dgs_nil)))))
    (ss_cons (s_setL hl_knots_of sc_knots_of.nd rfl (.inl rfl) (df_lst da_nil))
    (ss_cons (s_for (passes_of rfl) rfl (di_enum rfl (by rfl) T.b_enumerate (da_cons (de_var 1 (pv 1)) da_nil)) (dg_tup rfl rfl (dgs_cons (dg_name sc_knots_of.nd rfl (.inl rfl)) (dgs_cons (dg_tup rfl rfl (dgs_cons (dg_name sc_knots_of.nd rfl (.inr rfl)) (dgs_cons (dg_name sc_knots_of.nd rfl (.inl rfl)) dgs_nil))) dgs_nil)))
    (ss_cons (s_lcF (i := 9) (own := [("name", 13), ("publics", 14)]) hl_knots_of rfl sc_knots_of.nd rfl rfl (sw_true rfl rfl (by rfl) (by rfl)) (di_any rfl (de_var 3 (pv 3))) (blkOk_by (own := [("name", 13), ("publics", 14)]) (N := N_knots_of) (sc := defScope s_knots_of) (by decide +kernel)) (by decide) (fun _ _ _ _ _ => (dg_tup rfl rfl (dgs_cons (dg_name sc_knots_of.nd rfl (.inl rfl)) (dgs_cons (dg_name sc_knots_of.nd rfl (.inl rfl)) dgs_nil)))) (fun _ _ _ _ _ => dts_nil) (fun _ _ _ _ _ => (de_cal (k_key_of T) (hr.mono (by omega)) (by rfl) takes0 hl_knots_of (dav_cons (de_var 2 (pv 2)) (dav_cons (de_var 14 (pv 14)) (dav_cons (de_var 7 (pv 7)) dav_nil))))))
    (ss_one (s_for (passes_of rfl) rfl (di_any rfl (de_var 8 (pv 8))) (dg_tup rfl rfl (dgs_cons (dg_name sc_knots_of.nd rfl (.inr rfl)) (dgs_cons (dg_name sc_knots_of.nd rfl (.inl rfl)) dgs_nil)))
    (ss_cons (s_lcF (i := 12) (own := [("number", 15), ("one", 16)]) hl_knots_of rfl sc_knots_of.nd rfl rfl (sw_true rfl rfl (by rfl) (by rfl)) (di_enum rfl (by rfl) T.b_enumerate (da_cons (de_var 9 (pv 9)) da_nil)) (blkOk_by (own := [("number", 15), ("one", 16)]) (N := N_knots_of) (sc := defScope s_knots_of) (by decide +kernel)) (by decide) (fun _ _ _ _ _ => (dg_tup rfl rfl (dgs_cons (dg_name sc_knots_of.nd rfl (.inl rfl)) (dgs_cons (dg_name sc_knots_of.nd rfl (.inl rfl)) dgs_nil)))) (fun _ _ _ _ _ => (dts_one (dt_cmp (od_eq rfl hr.units) (de_var 16 (pv 16)) (de_var 10 (pv 10)) (nomark _)))) (fun _ _ _ _ _ => (de_var 15 (pv 15))))
    (ss_one (s_expr (de_mut1 PySem.F.slot_list_append PySem.F.type_list_append mt_append r_append (pv 5) (de_tup (da_cons (de_var 6 (pv 6)) (da_cons (de_var 10 (pv 10)) (da_cons (de_var 12 (pv 12)) (da_cons (de_var 11 (pv 11)) da_nil)))))))))))))
    (ss_one (s_ret (de_var 5 (pv 5)))))))
theorem k_fits (T : Tx K mg ct) : Cal P w K mg base 10 "fits" p_fits (spF K ct (fun G _ _ v d => Dr K G v d) 3 f_fits) :=
  T.d_fits.cal fun F => fun_okN (k := 9) (m := 6) (Sf := b_fits) F sc_fits rfl fun Pp cdv A outer s H E hr =>
    (ss_cons (s_if (dt_not (dt_val (de_callB (cd_all rfl rfl) (by rfl) T.b_all (by decide +kernel) (da_cons (de_fl hl_fits (df_lc (own := [("release", 7)]) rfl sc_fits.nd (di_any rfl (de_var 2 (pv 2))) (blkOk_by (own := [("release", 7)]) (N := N_fits) (sc := defScope s_fits) (by decide +kernel)) (by decide) (fun _ _ _ _ _ => (dg_name sc_fits.nd rfl (.inl rfl))) (fun _ _ _ _ _ => dts_nil) (fun _ _ _ _ _ => (de_cal (k_is_release T) (hr.mono (by omega)) (by rfl) takes0 hl_fits (dav_cons (de_ix rfl hr.units (de_var 0 (pv 0)) de_int (by intro _ _; rfl)) (dav_cons (de_var 7 (pv 7)) dav_nil)))))) da_nil))))
    (ss_one (s_ret de_bl))
    ss_nil)
    (ss_cons (s_for (passes_of rfl) rfl (di_any rfl (de_cal (k_knots_of T) (hr.mono (by omega)) (by rfl) (takes_of rfl rfl rfl rfl) hl_fits (dav_cons (de_var 0 (pv 0)) (dav_cons (de_var 2 (pv 2)) dav_nil)))) (dg_tup rfl rfl (dgs_cons (dg_name sc_fits.nd rfl (.inl rfl)) (dgs_cons (dg_name sc_fits.nd rfl (.inl rfl)) (dgs_cons (dg_name sc_fits.nd rfl (.inl rfl)) (dgs_cons (dg_name sc_fits.nd rfl (.inl rfl)) dgs_nil)))))
    (ss_one (s_if (dt_cmp (od_ne rfl hr.units) (de_callB (cd_sorted rfl rfl (u80 hr)) (by rfl) T.b_sorted (by decide +kernel) (da_cons (de_fl hl_fits (df_lc (own := [("number", 8)]) rfl sc_fits.nd (di_any rfl (de_var 5 (pv 5))) (blkOk_by (own := [("number", 8)]) (N := N_fits) (sc := defScope s_fits) (by decide +kernel)) (by decide) (fun _ _ _ _ _ => (dg_name sc_fits.nd rfl (.inl rfl))) (fun _ _ _ _ _ => dts_nil) (fun _ _ _ _ _ => (de_ix rfl hr.units (de_var 1 (pv 1)) (de_var 8 (pv 8)) (by intro _ _; rfl))))) da_nil)) (de_callTy (cd_list rfl) (by rfl) T.b_list (by decide +kernel) (da_cons (de_var 6 (pv 6)) da_nil)) (nomark _))
    (ss_one (s_ret de_bl))
    ss_nil)))
    (ss_one (s_ret de_bl))))
theorem k_Settling_init (T : Tx K mg ct) : CalI P w K mg base 8 (ct 0) "Settling" p_Settling_init (spF K ct (fun G _ _ v d => Dr K G v d) 3 f_Settling_init) :=
  T.d_Settling_init.cal fun F => fun_okN (k := 7) (m := 2) (Sf := b_Settling_init) F sc_Settling_init rfl fun Pp cdv A outer s H E hr =>
    (ss_cons (s_fld rfl (pv 0) T.cl_Settling T.na_Settling_names_known (de_fl hl_Settling_init (df_lc (own := [("name", 3), ("publics", 4)]) rfl sc_Settling_init.nd (di_any rfl (de_ix rfl hr.units (de_var 1 (pv 1)) de_int (by intro _ _; rfl))) (blkOk_by (own := [("name", 3), ("publics", 4)]) (N := N_Settling_init) (sc := defScope s_Settling_init) (by decide +kernel)) (by decide) (fun _ _ _ _ _ => (dg_tup rfl rfl (dgs_cons (dg_name sc_Settling_init.nd rfl (.inl rfl)) (dgs_cons (dg_name sc_Settling_init.nd rfl (.inl rfl)) dgs_nil)))) (fun _ _ _ _ _ => dts_nil) (fun _ _ _ _ _ => (de_var 3 (pv 3))))))
    (ss_cons (s_fld rfl (pv 0) T.cl_Settling T.na_Settling_kinds_known (de_ix rfl hr.units (de_var 1 (pv 1)) de_int (by intro _ _; rfl)))
    (ss_one (s_fld rfl (pv 0) T.cl_Settling T.na_Settling_knots (de_cal (k_knots_of T) (hr.mono (by omega)) (by rfl) (takes_of rfl rfl rfl rfl) hl_Settling_init (dav_cons (de_var 1 (pv 1)) (dav_cons (de_var 2 (pv 2)) dav_nil)))))))
theorem k_Settling_nobody (T : Tx K mg ct) : CalM P w K mg base 1 (ct 0) "nobody" p_Settling_nobody (spF K ct (fun G _ _ v d => Dr K G v d) 1 f_Settling_nobody) :=
  T.d_Settling_nobody.cal fun F => fun_okN (k := 0) (m := 1) (Sf := b_Settling_nobody) F sc_Settling_nobody rfl fun Pp cdv A outer s H E hr =>
    (ss_one (s_ret (de_fl hl_Settling_nobody (df_lc (own := [("name", 1)]) rfl sc_Settling_nobody.nd (di_any rfl (de_fld rfl (pv 0) T.cl_Settling T.na_Settling_names_known)) (blkOk_by (own := [("name", 1)]) (N := N_Settling_nobody) (sc := defScope s_Settling_nobody) (by decide +kernel)) (by decide) (fun _ _ _ _ _ => (dg_name sc_Settling_nobody.nd rfl (.inl rfl))) (fun _ _ _ _ _ => dts_nil) (fun _ _ _ _ _ => de_non)))))
theorem k_Settling_settled_more (T : Tx K mg ct) : CalM P w K mg base 1 (ct 0) "settled_more" p_Settling_settled_more (spF K ct (fun G _ _ v d => Dr K G v d) 4 f_Settling_settled_more) :=
  T.d_Settling_settled_more.cal fun F => fun_okN (k := 0) (m := 0) (Sf := b_Settling_settled_more) F sc_Settling_settled_more rfl fun Pp cdv A outer s H E hr =>
    (ss_one (s_ret (de_op (od_add rfl) (de_op (od_add rfl) (de_sl rfl (de_var 1 (pv 1)) do_none (do_some (de_var 2 (pv 2)))) (de_lst (da_cons (de_var 3 (pv 3)) da_nil))) (de_sl rfl (de_var 1 (pv 1)) (do_some (de_op (od_add rfl) (de_var 2 (pv 2)) de_int)) do_none))))
theorem k_is_clash (T : Tx K mg ct) : Cal P w K mg base 1 "is_clash" p_is_clash (spF K ct (fun G _ _ v d => Dr K G v d) 3 f_is_clash) :=
  T.d_is_clash.cal fun F => fun_okN (k := 0) (m := 9) (Sf := b_is_clash) F sc_is_clash rfl fun Pp cdv A outer s H E hr =>
    (ss_cons (s_asg (de_var 0 (pv 0)) (dg_tup rfl rfl (dgs_cons (dg_name sc_is_clash.nd rfl (.inl rfl)) (dgs_cons (dg_name sc_is_clash.nd rfl (.inl rfl)) (dgs_cons (dg_name sc_is_clash.nd rfl (.inl rfl)) (dgs_cons (dg_name sc_is_clash.nd rfl (.inl rfl)) dgs_nil))))))
    (ss_cons (s_set sc_is_clash.nd rfl (.inl rfl) (de_callB (cd_len rfl) (by rfl) T.b_len (by decide +kernel) (da_cons (de_fl hl_is_clash (df_lc (own := [("number", 10)]) rfl sc_is_clash.nd (di_any rfl (de_var 5 (pv 5))) (blkOk_by (own := [("number", 10)]) (N := N_is_clash) (sc := defScope s_is_clash) (by decide +kernel)) (by decide) (fun _ _ _ _ _ => (dg_name sc_is_clash.nd rfl (.inl rfl))) (fun _ _ _ _ _ => (dts_one (dt_cmp (od_eq rfl hr.units) (de_ix rfl hr.units (de_var 1 (pv 1)) (de_var 10 (pv 10)) (by intro _ _; rfl)) (de_var 2 (pv 2)) (nomark _)))) (fun _ _ _ _ _ => (de_var 10 (pv 10))))) da_nil)))
    (ss_cons (s_set sc_is_clash.nd rfl (.inl rfl) (de_callB (cd_len rfl) (by rfl) T.b_len (by decide +kernel) (da_cons (de_fl hl_is_clash (df_lc (own := [("number", 10)]) rfl sc_is_clash.nd (di_any rfl (de_var 5 (pv 5))) (blkOk_by (own := [("number", 10)]) (N := N_is_clash) (sc := defScope s_is_clash) (by decide +kernel)) (by decide) (fun _ _ _ _ _ => (dg_name sc_is_clash.nd rfl (.inl rfl))) (fun _ _ _ _ _ => (dts_one (dt_isN (de_ix rfl hr.units (de_var 1 (pv 1)) (de_var 10 (pv 10)) (by intro _ _; rfl))))) (fun _ _ _ _ _ => (de_var 10 (pv 10))))) da_nil)))
    (ss_cons (s_set sc_is_clash.nd rfl (.inl rfl) (de_callB (cd_len rfl) (by rfl) T.b_len (by decide +kernel) (da_cons (de_fl hl_is_clash (df_lc (own := [("one", 11)]) rfl sc_is_clash.nd (di_any rfl (de_var 6 (pv 6))) (blkOk_by (own := [("one", 11)]) (N := N_is_clash) (sc := defScope s_is_clash) (by decide +kernel)) (by decide) (fun _ _ _ _ _ => (dg_name sc_is_clash.nd rfl (.inl rfl))) (fun _ _ _ _ _ => (dts_one (dt_cmp (od_eq rfl hr.units) (de_var 11 (pv 11)) (de_var 2 (pv 2)) (nomark _)))) (fun _ _ _ _ _ => (de_var 11 (pv 11))))) da_nil)))
    (ss_one (s_ret (de_or (de_cmp (od_gtI) (de_var 7 (pv 7)) (de_var 9 (pv 9)) (nomark _)) (de_one (de_cmp (od_ltI) (de_op (od_add rfl) (de_var 7 (pv 7)) (de_var 8 (pv 8))) (de_var 9 (pv 9)) (nomark _))))))))))
theorem k_Settling_first_clash (T : Tx K mg ct) : CalM P w K mg base 2 (ct 0) "first_clash" p_Settling_first_clash (spF K ct (fun G _ _ v d => Dr K G v d) 3 f_Settling_first_clash) :=
  T.d_Settling_first_clash.cal fun F => fun_okN (k := 1) (m := 2) (Sf := b_Settling_first_clash) F sc_Settling_first_clash rfl fun Pp cdv A outer s H E hr =>
    (ss_cons (s_for (passes_of rfl) rfl (di_any rfl (de_var 2 (pv 2))) (dg_name sc_Settling_first_clash.nd rfl (.inl rfl))
    (ss_one (s_for (passes_of rfl) rfl (di_any rfl (de_sortK rfl rfl (u80 hr) (by rfl) T.b_sorted (dk_or (dk_set rfl rfl (by rfl) T.b_set (de_ix rfl hr.units (de_var 3 (pv 3)) de_int (by intro _ _; rfl))) (dk_setN rfl rfl (by rfl) T.b_set (de_fld rfl (pv 0) T.cl_Settling T.na_Settling_kinds_known))))) (dg_name sc_Settling_first_clash.nd rfl (.inl rfl))
    (ss_one (s_if (dt_val (de_cal (k_is_clash T) (hr.mono (by omega)) (by rfl) (takes_of rfl rfl rfl rfl) hl_Settling_first_clash (dav_cons (de_var 3 (pv 3)) (dav_cons (de_var 1 (pv 1)) (dav_cons (de_var 4 (pv 4)) dav_nil)))))
    (ss_one (s_ret (de_tup (da_cons de_str (da_cons (de_ix rfl hr.units (de_var 3 (pv 3)) de_int (by intro _ _; rfl)) (da_cons (de_ix rfl hr.units (de_var 3 (pv 3)) de_int (by intro _ _; rfl)) (da_cons (de_var 4 (pv 4)) da_nil)))))))
    ss_nil)))))
    (ss_one (s_ret de_non)))
theorem k_Settling_next_person (T : Tx K mg ct) : CalM P w K mg base 1 (ct 0) "next_person" p_Settling_next_person (spF K ct (fun G _ _ v d => Dr K G v d) 2 f_Settling_next_person) :=
  T.d_Settling_next_person.cal fun F => fun_okN (k := 0) (m := 8) (Sf := b_Settling_next_person) F sc_Settling_next_person rfl fun Pp cdv A outer s H E hr =>
    (ss_cons (s_lcF (i := 2) (own := [("number", 8), ("secret", 9)]) hl_Settling_next_person rfl sc_Settling_next_person.nd rfl rfl (sw_true rfl rfl (by rfl) (by rfl)) (di_enum rfl (by rfl) T.b_enumerate (da_cons (de_var 1 (pv 1)) da_nil)) (blkOk_by (own := [("number", 8), ("secret", 9)]) (N := N_Settling_next_person) (sc := defScope s_Settling_next_person) (by decide +kernel)) (by decide) (fun _ _ _ _ _ => (dg_tup rfl rfl (dgs_cons (dg_name sc_Settling_next_person.nd rfl (.inl rfl)) (dgs_cons (dg_name sc_Settling_next_person.nd rfl (.inl rfl)) dgs_nil)))) (fun _ _ _ _ _ => (dts_one (dt_isN (de_var 9 (pv 9))))) (fun _ _ _ _ _ => (de_var 8 (pv 8))))
    (ss_cons (s_for (passes_of rfl) rfl (di_any rfl (de_fld rfl (pv 0) T.cl_Settling T.na_Settling_knots)) (dg_tup rfl rfl (dgs_cons (dg_name sc_Settling_next_person.nd rfl (.inl rfl)) (dgs_cons (dg_name sc_Settling_next_person.nd rfl (.inl rfl)) (dgs_cons (dg_name sc_Settling_next_person.nd rfl (.inl rfl)) (dgs_cons (dg_name sc_Settling_next_person.nd rfl (.inl rfl)) dgs_nil)))))
    (ss_cons (s_lcF (i := 7) (own := [("number", 8)]) hl_Settling_next_person rfl sc_Settling_next_person.nd rfl rfl (sw_true rfl rfl (by rfl) (by rfl)) (di_any rfl (de_var 5 (pv 5))) (blkOk_by (own := [("number", 8)]) (N := N_Settling_next_person) (sc := defScope s_Settling_next_person) (by decide +kernel)) (by decide) (fun _ _ _ _ _ => (dg_name sc_Settling_next_person.nd rfl (.inl rfl))) (fun _ _ _ _ _ => (dts_one (dt_isN (de_ix rfl hr.units (de_var 1 (pv 1)) (de_var 8 (pv 8)) (by intro _ _; rfl))))) (fun _ _ _ _ _ => (de_var 8 (pv 8))))
    (ss_one (s_if (dt_w (dw_and (dt_cmp (od_ne rfl hr.units) (de_var 7 (pv 7)) (de_lst da_nil) (nomark _)) (dw_and1 (dt_cmp (od_ltI) (de_callB (cd_len rfl) (by rfl) T.b_len (by decide +kernel) (da_cons (de_var 7 (pv 7)) da_nil)) (de_callB (cd_len rfl) (by rfl) T.b_len (by decide +kernel) (da_cons (de_var 2 (pv 2)) da_nil)) (nomark _)))))
    (ss_one (s_set sc_Settling_next_person.nd rfl (.inl rfl) (de_var 7 (pv 7))))
    ss_nil))))
    (ss_one (s_ret (de_if (dt_cmp (od_ne rfl hr.units) (de_var 2 (pv 2)) (de_lst da_nil) (nomark _)) (de_ix rfl hr.units (de_var 2 (pv 2)) de_int (by intro _ _; rfl)) de_non)))))
theorem k_Settling_grown (T : Tx K mg ct) : ∀ n : Nat, CalM P w K mg base (3 + 1 * n) (ct 0) "grown" p_Settling_grown (spF K ct (fun G _ _ v d => Dr K G v d) 3 (f_Settling_grown n))
  | 0 => T.d_Settling_grown.cal fun F => fn_none rfl
  | n + 1 => by
    have IH := k_Settling_grown T n
    have k_Settling_grown : CalM P w K mg base (3 + 1 * n) (ct 0) "grown" p_Settling_grown (spF K ct (fun G _ _ v d => Dr K G v d) 3 (f_Settling_grown n)) := IH
    exact T.d_Settling_grown.cal fun F => (fun_okN (k := 3 + 1 * n + 0) (m := 8) (Sf := b_Settling_grown (f_Settling_grown n)) F sc_Settling_grown rfl fun Pp cdv A outer s H E hr =>
    (ss_cons (s_set sc_Settling_grown.nd rfl (.inl rfl) (de_methC (k_Settling_first_clash T) T.cl_Settling (hr.mono (by omega)) (pv 0) (takes_of rfl rfl rfl rfl) hl_Settling_grown (dav_cons (de_var 1 (pv 1)) (dav_cons (de_var 2 (pv 2)) dav_nil))))
    (ss_cons (s_if (dt_notN (de_var 3 (pv 3)))
    (ss_one (s_ret (de_tup (da_cons de_str (da_cons (de_var 3 (pv 3)) da_nil)))))
    ss_nil)
    (ss_cons (s_set sc_Settling_grown.nd rfl (.inr rfl) (de_methC (k_Settling_next_person T) T.cl_Settling (hr.mono (by omega)) (pv 0) (takes_of rfl rfl rfl rfl) hl_Settling_grown (dav_cons (de_var 1 (pv 1)) dav_nil)))
    (ss_cons (s_if (dt_isN (de_var 4 (pv 4)))
    (ss_one (s_ret (de_tup (da_cons de_str (da_cons (de_callTy (cd_tuple rfl) (by rfl) T.b_tuple (by decide +kernel) (da_cons (de_var 1 (pv 1)) da_nil)) da_nil)))))
    ss_nil)
    (ss_cons (s_setL hl_Settling_grown sc_Settling_grown.nd rfl (.inl rfl) (df_lst da_nil))
    (ss_cons (s_lcF (i := 6) (own := [("knot", 10)]) hl_Settling_grown rfl sc_Settling_grown.nd rfl rfl (sw_true rfl rfl (by rfl) (by rfl)) (di_any rfl (de_fld rfl (pv 0) T.cl_Settling T.na_Settling_knots)) (blkOk_by (own := [("knot", 10)]) (N := N_Settling_grown) (sc := defScope s_Settling_grown) (by decide +kernel)) (by decide) (fun _ _ _ _ _ => (dg_name sc_Settling_grown.nd rfl (.inl rfl))) (fun _ _ _ _ _ => (dts_one (dt_cmp (od_in rfl hr.units) (de_var 4 (pv 4)) (de_ix rfl hr.units (de_var 10 (pv 10)) de_int (by intro _ _; rfl)) (by with_unfolding_all rfl)))) (fun _ _ _ _ _ => (de_var 10 (pv 10))))
    (ss_cons (s_for (passes_of rfl) rfl (di_any rfl (de_fld rfl (pv 0) T.cl_Settling T.na_Settling_kinds_known)) (dg_name sc_Settling_grown.nd rfl (.inl rfl))
    (ss_cons (s_asg (de_methC k_Settling_grown T.cl_Settling (hr.mono (by omega)) (pv 0) (takes_of rfl rfl rfl rfl) hl_Settling_grown (dav_cons (de_methC (k_Settling_settled_more T) T.cl_Settling (hr.mono (by omega)) (pv 0) (takes_of rfl rfl rfl rfl) hl_Settling_grown (dav_cons (de_var 1 (pv 1)) (dav_cons (de_var 4 (pv 4)) (dav_cons (de_var 7 (pv 7)) dav_nil)))) (dav_cons (de_var 6 (pv 6)) dav_nil))) (dg_tup rfl rfl (dgs_cons (dg_name sc_Settling_grown.nd rfl (.inl rfl)) (dgs_cons (dg_name sc_Settling_grown.nd rfl (.inl rfl)) dgs_nil))))
    (ss_cons (s_if (dt_cmp (od_eq rfl hr.units) (de_var 8 (pv 8)) de_str (nomark _))
    (ss_one (s_ret (de_tup (da_cons (de_var 8 (pv 8)) (da_cons (de_var 9 (pv 9)) da_nil)))))
    ss_nil)
    (ss_one (s_expr (de_mut1 PySem.F.slot_list_append PySem.F.type_list_append mt_append r_append (pv 5) (de_var 9 (pv 9))))))))
    (ss_one (s_ret (de_tup (da_cons de_str (da_cons (de_tup (da_cons de_str (da_cons (de_ix rfl hr.units (de_fld rfl (pv 0) T.cl_Settling T.na_Settling_names_known) (de_var 4 (pv 4)) (by intro _ _; rfl)) (da_cons (de_callTy (cd_tuple rfl) (by rfl) T.b_tuple (by decide +kernel) (da_cons (de_var 5 (pv 5)) da_nil)) da_nil)))) da_nil))))))))))))).mono (by omega)
theorem k_Settling_grown_ (T : Tx K mg ct) : CalM P w K mg base 24 (ct 0) "grown" p_Settling_grown (spF K ct (fun G _ _ v d => Dr K G v d) 3 (f_Settling_grown 20)) := by
  exact (k_Settling_grown (P := P) (w := w) (base := base) T 20).mono (by omega)
theorem k_Settling_world_or_none (T : Tx K mg ct) : CalM P w K mg base 25 (ct 0) "world_or_none" p_Settling_world_or_none (spF K ct (fun G _ _ v d => Dr K G v d) 2 f_Settling_world_or_none) :=
  T.d_Settling_world_or_none.cal fun F => fun_okN (k := 24) (m := 0) (Sf := b_Settling_world_or_none) F sc_Settling_world_or_none rfl fun Pp cdv A outer s H E hr =>
    (ss_one (s_ret (de_methC (k_Settling_grown_ T) T.cl_Settling (hr.mono (by omega)) (pv 0) (takes_of rfl rfl rfl rfl) hl_Settling_world_or_none (dav_cons (de_var 1 (pv 1)) (dav_cons (de_fld rfl (pv 0) T.cl_Settling T.na_Settling_knots) dav_nil)))))
theorem k_may_have (T : Tx K mg ct) : Cal P w K mg base 26 "may_have" p_may_have (spF K ct (fun G _ _ v d => Dr K G v d) 2 f_may_have) :=
  T.d_may_have.cal fun F => fun_okN (k := 25) (m := 12) (Sf := b_may_have) F sc_may_have rfl fun Pp cdv A outer s H E hr =>
    (ss_cons (s_new hl_may_have sc_may_have.nd rfl (.inl rfl) (dn_mk (k_Settling_init T) (hr.mono (by omega)) (by rfl) (takes_of rfl rfl rfl rfl) hl_may_have (dav_cons (de_var 0 (pv 0)) (dav_cons (de_var 1 (pv 1)) dav_nil))))
    (ss_cons (s_lcF (i := 3) (own := [("name", 6), ("publics", 13)]) hl_may_have rfl sc_may_have.nd rfl rfl (sw_true rfl rfl (by rfl) (by rfl)) (di_any rfl (de_ix rfl hr.units (de_var 0 (pv 0)) de_int (by intro _ _; rfl))) (blkOk_by (own := [("name", 6), ("publics", 13)]) (N := N_may_have) (sc := defScope s_may_have) (by decide +kernel)) (by decide) (fun _ _ _ _ _ => (dg_tup rfl rfl (dgs_cons (dg_name sc_may_have.nd rfl (.inl rfl)) (dgs_cons (dg_name sc_may_have.nd rfl (.inl rfl)) dgs_nil)))) (fun _ _ _ _ _ => dts_nil) (fun _ _ _ _ _ => (de_var 6 (pv 6))))
    (ss_cons (s_setDl hl_may_have sc_may_have.nd rfl (.inr rfl) (ddl_dc (own := [("name", 6)]) rfl sc_may_have.nd (di_any rfl (de_var 3 (pv 3))) (blkOk_by (own := [("name", 6)]) (N := N_may_have) (sc := defScope s_may_have) (by decide +kernel)) (by decide) (fun _ _ _ _ _ => (dg_name sc_may_have.nd rfl (.inl rfl))) (fun _ _ _ _ _ => (de_var 6 (pv 6)))))
    (ss_cons (s_for (passes_of rfl) rfl (di_enum rfl (by rfl) T.b_enumerate (da_cons (de_var 3 (pv 3)) da_nil)) (dg_tup rfl rfl (dgs_cons (dg_name sc_may_have.nd rfl (.inl rfl)) (dgs_cons (dg_name sc_may_have.nd rfl (.inl rfl)) dgs_nil)))
    (ss_one (s_for (passes_of rfl) rfl (di_any rfl (de_ix rfl hr.units (de_var 0 (pv 0)) de_int (by intro _ _; rfl))) (dg_name sc_may_have.nd rfl (.inl rfl))
    (ss_one (s_if (dt_inDl hr.units (od_nin rfl hr.units) (dp_var 7 (pv 7)) (pv 4) (dp_var 6 (pv 6)) (by intro _ _; rfl) (by with_unfolding_all rfl))
    (ss_cons (s_set sc_may_have.nd rfl (.inl rfl) (de_methC (k_Settling_settled_more T) T.cl_Settling (hr.mono (by omega)) (pv 2) (takes_of rfl rfl rfl rfl) hl_may_have (dav_cons (de_meth0C (k_Settling_nobody T) T.cl_Settling (hr.mono (by omega)) (pv 2) (takes_of rfl rfl rfl rfl) hl_may_have) (dav_cons (de_var 5 (pv 5)) (dav_cons (de_var 7 (pv 7)) dav_nil)))))
    (ss_cons (s_asg (de_methC (k_Settling_world_or_none T) T.cl_Settling (hr.mono (by omega)) (pv 2) (takes_of rfl rfl rfl rfl) hl_may_have (dav_cons (de_var 8 (pv 8)) dav_nil)) (dg_tup rfl rfl (dgs_cons (dg_name sc_may_have.nd rfl (.inl rfl)) (dgs_cons (dg_name sc_may_have.nd rfl (.inl rfl)) dgs_nil))))
    (ss_one (s_if (dt_cmp (od_eq rfl hr.units) (de_var 9 (pv 9)) de_str (nomark _))
    (ss_one (s_for (passes_of rfl) rfl (di_zip2 rfl (by rfl) T.b_zip (da_cons (de_var 3 (pv 3)) (da_cons (de_var 10 (pv 10)) da_nil))) (dg_tup rfl rfl (dgs_cons (dg_name sc_may_have.nd rfl (.inl rfl)) (dgs_cons (dg_name sc_may_have.nd rfl (.inl rfl)) dgs_nil)))
    (ss_one (s_if (dt_inDl hr.units (od_nin rfl hr.units) (dp_var 12 (pv 12)) (pv 4) (dp_var 11 (pv 11)) (by intro _ _; rfl) (by with_unfolding_all rfl))
    (ss_one (s_expr (de_appDl hr.units (pv 4) (dp_var 11 (pv 11)) (by intro _ _; rfl) (dp_var 12 (pv 12)))))
    ss_nil))))
    ss_nil))))
    ss_nil)))))
    (ss_cons (s_if (dt_nilDl rfl hr.units (pv 4) (dp_ix rfl (dp_var 3 (pv 3)) dp_int (by intro _ _; rfl)) (by intro _ _; rfl))
    (ss_one (s_raise rfl (takes_of rfl rfl rfl rfl) PySem.F.excBase_ValueError T.x_NoWorld T.gx_NoWorld T.kx_NoWorld (raises_own T.bx_NoWorld T.tx_NoWorld) (by rfl)))
    ss_nil)
    (ss_one (s_ret (de_fd hl_may_have (dfd_dc (own := [("name", 6)]) rfl sc_may_have.nd (di_any rfl (de_var 3 (pv 3))) (blkOk_by (own := [("name", 6)]) (N := N_may_have) (sc := defScope s_may_have) (by decide +kernel)) (by decide) (fun _ _ _ _ _ => (dg_name sc_may_have.nd rfl (.inl rfl))) (fun _ _ _ _ _ => dts_nil) (fun _ _ _ _ _ => (de_var 6 (pv 6))) (fun _ _ _ _ _ => (de_sortDl rfl (u80 hr) (by rfl) T.b_sorted (pv 4) (dp_var 6 (pv 6)) (by intro _ _; rfl))))))))))))
theorem k_Settling_number_named (T : Tx K mg ct) : CalM P w K mg base 1 (ct 0) "number_named" p_Settling_number_named (spF K ct (fun G _ _ v d => Dr K G v d) 2 f_Settling_number_named) :=
  T.d_Settling_number_named.cal fun F => fun_okN (k := 0) (m := 0) (Sf := b_Settling_number_named) F sc_Settling_number_named rfl fun Pp cdv A outer s H E hr =>
    (ss_one (s_ret (de_index rfl (u70 hr) (de_fld rfl (pv 0) T.cl_Settling T.na_Settling_names_known) (de_var 1 (pv 1)))))
theorem k_is_number_2 (T : Tx K mg ct) : Cal P w K mg base 1 "is_number_trees" p_is_number_2 (spF K ct (fun G _ _ v d => Dr K G v d) 1 f_is_number_2) :=
  T.d_is_number_2.cal fun F => fun_okN (k := 0) (m := 0) (Sf := b_is_number_2) F sc_is_number_2 rfl fun Pp cdv A outer s H E hr =>
    (ss_one (s_ret (de_and (de_isi rfl (by rfl) T.b_isinstance (by rfl) T.b_int (by decide +kernel) (de_var 0 (pv 0))) (de_one (de_not (de_isi rfl (by rfl) T.b_isinstance (by rfl) T.b_bool (by decide +kernel) (de_var 0 (pv 0))))))))
theorem k_is_same_key (T : Tx K mg ct) : Cal P w K mg base 1 "is_same_key" p_is_same_key (spF K ct (fun G _ _ v d => Dr K G v d) 2 f_is_same_key) :=
  T.d_is_same_key.cal fun F => fun_okN (k := 0) (m := 1) (Sf := b_is_same_key) F sc_is_same_key rfl fun Pp cdv A outer s H E hr =>
    (ss_cons (s_if (dt_w (dw_or (dt_not (dt_val (de_isi rfl (by rfl) T.b_isinstance (by rfl) T.b_tuple (by decide +kernel) (de_var 1 (pv 1))))) (dw_or1 (dt_cmp (od_ne rfl hr.units) (de_var 1 (pv 1)) (de_var 0 (pv 0)) (nomark _)))))
    (ss_one (s_ret de_bl))
    ss_nil)
    (ss_one (s_ret (de_not (de_callB (cd_any rfl rfl) (by rfl) T.b_any (by decide +kernel) (da_cons (de_fl hl_is_same_key (df_lc (own := [("part", 2)]) rfl sc_is_same_key.nd (di_any rfl (de_var 1 (pv 1))) (blkOk_by (own := [("part", 2)]) (N := N_is_same_key) (sc := defScope s_is_same_key) (by decide +kernel)) (by decide) (fun _ _ _ _ _ => (dg_name sc_is_same_key.nd rfl (.inl rfl))) (fun _ _ _ _ _ => dts_nil) (fun _ _ _ _ _ => (de_isi rfl (by rfl) T.b_isinstance (by rfl) T.b_bool (by decide +kernel) (de_var 2 (pv 2)))))) da_nil))))))
theorem k_clash_holds (T : Tx K mg ct) : Cal P w K mg base 2 "clash_holds" p_clash_holds (spF K ct (fun G _ _ v d => Dr K G v d) 3 f_clash_holds) :=
  T.d_clash_holds.cal fun F => fun_okN (k := 1) (m := 5) (Sf := b_clash_holds) F sc_clash_holds rfl fun Pp cdv A outer s H E hr =>
    (ss_cons (s_asg (de_var 2 (pv 2)) (dg_tup rfl rfl (dgs_cons (dg_name sc_clash_holds.nd rfl (.inl rfl)) (dgs_cons (dg_name sc_clash_holds.nd rfl (.inl rfl)) (dgs_cons (dg_name sc_clash_holds.nd rfl (.inl rfl)) (dgs_cons (dg_name sc_clash_holds.nd rfl (.inl rfl)) dgs_nil))))))
    (ss_cons (s_if (dt_w (dw_or (dt_not (dt_val (de_cal (k_is_number_2 T) (hr.mono (by omega)) (by rfl) (takes_of rfl rfl rfl rfl) hl_clash_holds (dav_cons (de_var 4 (pv 4)) dav_nil)))) (dw_or1 (dt_not (dt_val (de_isi rfl (by rfl) T.b_isinstance (by rfl) T.b_str (by decide +kernel) (de_var 6 (pv 6))))))))
    (ss_one (s_ret de_bl))
    ss_nil)
    (ss_cons (s_for (passes_of rfl) rfl (di_any rfl (de_fld rfl (pv 0) T.cl_Settling T.na_Settling_knots)) (dg_name sc_clash_holds.nd rfl (.inl rfl))
    (ss_one (s_if (dt_w (dw_and (dt_cmp (od_eq rfl hr.units) (de_ix rfl hr.units (de_var 7 (pv 7)) de_int (by intro _ _; rfl)) (de_var 4 (pv 4)) (nomark _)) (dw_and1 (dt_val (de_cal (k_is_same_key T) (hr.mono (by omega)) (by rfl) (takes_of rfl rfl rfl rfl) hl_clash_holds (dav_cons (de_ix rfl hr.units (de_var 7 (pv 7)) de_int (by intro _ _; rfl)) (dav_cons (de_var 5 (pv 5)) dav_nil)))))))
    (ss_one (s_ret (de_cal (k_is_clash T) (hr.mono (by omega)) (by rfl) (takes_of rfl rfl rfl rfl) hl_clash_holds (dav_cons (de_var 7 (pv 7)) (dav_cons (de_var 1 (pv 1)) (dav_cons (de_var 6 (pv 6)) dav_nil))))))
    ss_nil)))
    (ss_one (s_ret de_bl)))))
theorem k_split_holds (T : Tx K mg ct) {r_holds : Env → R PyData} {dd : Nat} (hd : 1 ≤ dd) (k_holds : Cal P w K mg base dd "holds" p_holds (spF K ct (fun G _ _ v d => Dr K G v d) 3 r_holds)) : Cal P w K mg base (dd + 1) "split_holds" p_split_holds (spF K ct (fun G _ _ v d => Dr K G v d) 3 (f_split_holds r_holds)) :=
  T.d_split_holds.cal fun F => fun_okN (k := dd) (m := 6) (Sf := b_split_holds r_holds) F sc_split_holds rfl fun Pp cdv A outer s H E hr =>
    (ss_cons (s_asg (de_var 2 (pv 2)) (dg_tup rfl rfl (dgs_cons (dg_name sc_split_holds.nd rfl (.inl rfl)) (dgs_cons (dg_name sc_split_holds.nd rfl (.inl rfl)) (dgs_cons (dg_name sc_split_holds.nd rfl (.inl rfl)) dgs_nil)))))
    (ss_cons (s_if (dt_w (dw_or (dt_not (dt_val (de_isi rfl (by rfl) T.b_isinstance (by rfl) T.b_str (by decide +kernel) (de_var 4 (pv 4))))) (dw_or (dt_cmp (od_nin rfl hr.units) (de_var 4 (pv 4)) (de_fld rfl (pv 0) T.cl_Settling T.na_Settling_names_known) (by with_unfolding_all rfl)) (dw_or1 (dt_not (dt_val (de_isi rfl (by rfl) T.b_isinstance (by rfl) T.b_tuple (by decide +kernel) (de_var 5 (pv 5)))))))))
    (ss_one (s_ret de_bl))
    ss_nil)
    (ss_cons (s_set sc_split_holds.nd rfl (.inl rfl) (de_methC (k_Settling_number_named T) T.cl_Settling (hr.mono (by omega)) (pv 0) (takes_of rfl rfl rfl rfl) hl_split_holds (dav_cons (de_var 4 (pv 4)) dav_nil)))
    (ss_cons (s_if (dt_w (dw_or (dt_notN (de_ix rfl hr.units (de_var 1 (pv 1)) (de_var 6 (pv 6)) (by intro _ _; rfl))) (dw_or1 (dt_cmp (od_ne rfl hr.units) (de_callB (cd_len rfl) (by rfl) T.b_len (by decide +kernel) (da_cons (de_var 5 (pv 5)) da_nil)) (de_callB (cd_len rfl) (by rfl) T.b_len (by decide +kernel) (da_cons (de_fld rfl (pv 0) T.cl_Settling T.na_Settling_kinds_known) da_nil)) (nomark _)))))
    (ss_one (s_ret de_bl))
    ss_nil)
    (ss_cons (s_for (passes_of rfl) rfl (di_zip2 rfl (by rfl) T.b_zip (da_cons (de_fld rfl (pv 0) T.cl_Settling T.na_Settling_kinds_known) (da_cons (de_var 5 (pv 5)) da_nil))) (dg_tup rfl rfl (dgs_cons (dg_name sc_split_holds.nd rfl (.inl rfl)) (dgs_cons (dg_name sc_split_holds.nd rfl (.inl rfl)) dgs_nil)))
    (ss_one (s_if (dt_not (dt_val (de_cal k_holds (hr.mono (by omega)) (by rfl) (takes_of rfl rfl rfl rfl) hl_split_holds (dav_own (pv 0) (dav_cons (de_methC (k_Settling_settled_more T) T.cl_Settling (hr.mono (by omega)) (pv 0) (takes_of rfl rfl rfl rfl) hl_split_holds (dav_cons (de_var 1 (pv 1)) (dav_cons (de_var 6 (pv 6)) (dav_cons (de_var 7 (pv 7)) dav_nil)))) (dav_cons (de_var 8 (pv 8)) dav_nil))))))
    (ss_one (s_ret de_bl))
    ss_nil)))
    (ss_one (s_ret de_bl)))))))
theorem k_holds (T : Tx K mg ct) : ∀ n : Nat, Cal P w K mg base (3 + 2 * n) "holds" p_holds (spF K ct (fun G _ _ v d => Dr K G v d) 3 (f_holds n))
  | 0 => T.d_holds.cal fun F => fn_none rfl
  | n + 1 => by
    have IH := k_holds T n
    have k_split_holds : Cal P w K mg base (3 + 2 * n + 1) "split_holds" p_split_holds (spF K ct (fun G _ _ v d => Dr K G v d) 3 (f_split_holds (f_holds n))) := k_split_holds T (by omega) IH
    exact T.d_holds.cal fun F => (fun_okN (k := 3 + 2 * n + 1) (m := 0) (Sf := b_holds (f_split_holds (f_holds n))) F sc_holds rfl fun Pp cdv A outer s H E hr =>
    (ss_cons (s_if (dt_w (dw_or (dt_not (dt_val (de_isi rfl (by rfl) T.b_isinstance (by rfl) T.b_tuple (by decide +kernel) (de_var 2 (pv 2))))) (dw_or (dt_cmp (od_ltI) (de_callB (cd_len rfl) (by rfl) T.b_len (by decide +kernel) (da_cons (de_var 2 (pv 2)) da_nil)) de_int (nomark _)) (dw_or1 (dt_not (dt_val (de_isi rfl (by rfl) T.b_isinstance (by rfl) T.b_str (by decide +kernel) (de_ix rfl hr.units (de_var 2 (pv 2)) de_int (by intro _ _; rfl)))))))))
    (ss_one (s_ret de_bl))
    ss_nil)
    (ss_cons (s_if (dt_w (dw_and (dt_cmp (od_eq rfl hr.units) (de_ix rfl hr.units (de_var 2 (pv 2)) de_int (by intro _ _; rfl)) de_str (nomark _)) (dw_and1 (dt_cmp (od_eq rfl hr.units) (de_callB (cd_len rfl) (by rfl) T.b_len (by decide +kernel) (da_cons (de_var 2 (pv 2)) da_nil)) de_int (nomark _)))))
    (ss_one (s_ret (de_cal (k_clash_holds T) (hr.mono (by omega)) (by rfl) (takes_of rfl rfl rfl rfl) hl_holds (dav_own (pv 0) (dav_cons (de_var 1 (pv 1)) (dav_cons (de_var 2 (pv 2)) dav_nil))))))
    ss_nil)
    (ss_one (s_ret (de_and (de_cmp (od_eq rfl hr.units) (de_ix rfl hr.units (de_var 2 (pv 2)) de_int (by intro _ _; rfl)) de_str (nomark _)) (de_and (de_cmp (od_eq rfl hr.units) (de_callB (cd_len rfl) (by rfl) T.b_len (by decide +kernel) (da_cons (de_var 2 (pv 2)) da_nil)) de_int (nomark _)) (de_one (de_cal k_split_holds (hr.mono (by omega)) (by rfl) (takes_of rfl rfl rfl rfl) hl_holds (dav_own (pv 0) (dav_cons (de_var 1 (pv 1)) (dav_cons (de_var 2 (pv 2)) dav_nil)))))))))))).mono (by omega)
theorem k_holds_ (T : Tx K mg ct) : Cal P w K mg base 45 "holds" p_holds (spF K ct (fun G _ _ v d => Dr K G v d) 3 (f_holds 20)) := by
  exact (k_holds (P := P) (w := w) (base := base) T 20).mono (by omega)
theorem k_tree_holds (T : Tx K mg ct) : Cal P w K mg base 46 "tree_holds" p_tree_holds (spF K ct (fun G _ _ v d => Dr K G v d) 5 f_tree_holds) :=
  T.d_tree_holds.cal fun F => fun_okN (k := 45) (m := 2) (Sf := b_tree_holds) F sc_tree_holds rfl fun Pp cdv A outer s H E hr =>
    (ss_cons (s_new hl_tree_holds sc_tree_holds.nd rfl (.inl rfl) (dn_mk (k_Settling_init T) (hr.mono (by omega)) (by rfl) (takes_of rfl rfl rfl rfl) hl_tree_holds (dav_cons (de_var 0 (pv 0)) (dav_cons (de_var 1 (pv 1)) dav_nil))))
    (ss_cons (s_set sc_tree_holds.nd rfl (.inl rfl) (de_methC (k_Settling_number_named T) T.cl_Settling (hr.mono (by omega)) (pv 5) (takes_of rfl rfl rfl rfl) hl_tree_holds (dav_cons (de_var 2 (pv 2)) dav_nil)))
    (ss_one (s_ret (de_cal (k_holds_ T) (hr.mono (by omega)) (by rfl) (takes_of rfl rfl rfl rfl) hl_tree_holds (dav_own (pv 5) (dav_cons (de_methC (k_Settling_settled_more T) T.cl_Settling (hr.mono (by omega)) (pv 5) (takes_of rfl rfl rfl rfl) hl_tree_holds (dav_cons (de_meth0C (k_Settling_nobody T) T.cl_Settling (hr.mono (by omega)) (pv 5) (takes_of rfl rfl rfl rfl) hl_tree_holds) (dav_cons (de_var 6 (pv 6)) (dav_cons (de_var 3 (pv 3)) dav_nil)))) (dav_cons (de_var 4 (pv 4)) dav_nil))))))))
theorem k_world_or_tree (T : Tx K mg ct) : Cal P w K mg base 26 "world_or_tree" p_world_or_tree (spF K ct (fun G _ _ v d => Dr K G v d) 4 f_world_or_tree) :=
  T.d_world_or_tree.cal fun F => fun_okN (k := 25) (m := 2) (Sf := b_world_or_tree) F sc_world_or_tree rfl fun Pp cdv A outer s H E hr =>
    (ss_cons (s_new hl_world_or_tree sc_world_or_tree.nd rfl (.inl rfl) (dn_mk (k_Settling_init T) (hr.mono (by omega)) (by rfl) (takes_of rfl rfl rfl rfl) hl_world_or_tree (dav_cons (de_var 0 (pv 0)) (dav_cons (de_var 1 (pv 1)) dav_nil))))
    (ss_cons (s_set sc_world_or_tree.nd rfl (.inl rfl) (de_methC (k_Settling_number_named T) T.cl_Settling (hr.mono (by omega)) (pv 4) (takes_of rfl rfl rfl rfl) hl_world_or_tree (dav_cons (de_var 2 (pv 2)) dav_nil)))
    (ss_one (s_ret (de_methC (k_Settling_world_or_none T) T.cl_Settling (hr.mono (by omega)) (pv 4) (takes_of rfl rfl rfl rfl) hl_world_or_tree (dav_cons (de_methC (k_Settling_settled_more T) T.cl_Settling (hr.mono (by omega)) (pv 4) (takes_of rfl rfl rfl rfl) hl_world_or_tree (dav_cons (de_meth0C (k_Settling_nobody T) T.cl_Settling (hr.mono (by omega)) (pv 4) (takes_of rfl rfl rfl rfl) hl_world_or_tree) (dav_cons (de_var 5 (pv 5)) (dav_cons (de_var 3 (pv 3)) dav_nil)))) dav_nil))))))
theorem k__law_held (T : Tx K mg ct) : Cal P w K mg base 47 "_law_held" p__law_held (spF K ct (fun G _ _ v d => Dr K G v d) 1 f__law_held) :=
  T.d__law_held.cal fun F => fun_okN (k := 46) (m := 15) (Sf := b__law_held) F sc__law_held rfl fun Pp cdv A outer s H E hr =>
    (ss_cons (s_set sc__law_held.nd rfl (.inr rfl) (de_cal (k__law_roll T) (hr.mono (by omega)) (by rfl) (takes_of rfl rfl rfl rfl) hl__law_held (dav_own (pv 0) (dav_cons de_int (dav_cons de_int dav_nil)))))
    (ss_cons (s_set sc__law_held.nd rfl (.inr rfl) (de_fl hl__law_held (df_lc (own := [("k", 6)]) rfl sc__law_held.nd (di_range1 (by rfl) T.b_range (da_cons (de_cal (k__law_draw T) (hr.mono (by omega)) (by rfl) (takes_of rfl rfl rfl rfl) hl__law_held (dav_own (pv 0) (dav_cons de_int dav_nil))) da_nil)) (blkOk_by (own := [("k", 6)]) (N := N__law_held) (sc := defScope s__law_held) (by decide +kernel)) (by decide) (fun _ _ _ _ _ => (dg_name sc__law_held.nd rfl (.inl rfl))) (fun _ _ _ _ _ => dts_nil) (fun _ _ _ _ _ => (de_cal (k__law_empty T) (hr.mono (by omega)) (by rfl) takes0 hl__law_held (dav_own (pv 0) (dav_cons (de_var 1 (pv 1)) dav_nil)))))))
    (ss_cons (s_set sc__law_held.nd rfl (.inl rfl) (de_cal (k__law_world T) (hr.mono (by omega)) (by rfl) (takes_of rfl rfl rfl rfl) hl__law_held (dav_own (pv 0) (dav_cons (de_var 1 (pv 1)) dav_nil))))
    (ss_cons (s_set sc__law_held.nd rfl (.inl rfl) (de_cal (k_may_have T) (hr.mono (by omega)) (by rfl) (takes_of rfl rfl rfl rfl) hl__law_held (dav_cons (de_var 1 (pv 1)) (dav_cons (de_var 2 (pv 2)) dav_nil))))
    (ss_cons (s_if (dt_w (dw_and (dt_neNil hr.units0 (de_var 4 (pv 4))) (dw_and1 (dt_not (dt_val (de_cal (k_fits T) (hr.mono (by omega)) (by rfl) (takes_of rfl rfl rfl rfl) hl__law_held (dav_cons (de_var 1 (pv 1)) (dav_cons (de_var 3 (pv 3)) (dav_cons (de_var 2 (pv 2)) dav_nil)))))))))
    (ss_one (s_ret de_bl))
    ss_nil)
    (ss_cons (s_if (dt_cmp (od_ne rfl hr.units) (de_callB (cd_sorted rfl rfl (u80 hr)) (by rfl) T.b_sorted (by decide +kernel) (da_cons (de_var 4 (pv 4)) da_nil)) (de_callB (cd_sorted rfl rfl (u80 hr)) (by rfl) T.b_sorted (by decide +kernel) (da_cons (de_fl hl__law_held (df_lc (own := [("person", 14)]) rfl sc__law_held.nd (di_any rfl (de_ix rfl hr.units (de_var 1 (pv 1)) de_int (by intro _ _; rfl))) (blkOk_by (own := [("person", 14)]) (N := N__law_held) (sc := defScope s__law_held) (by decide +kernel)) (by decide) (fun _ _ _ _ _ => (dg_name sc__law_held.nd rfl (.inl rfl))) (fun _ _ _ _ _ => dts_nil) (fun _ _ _ _ _ => (de_ix rfl hr.units (de_var 14 (pv 14)) de_int (by intro _ _; rfl))))) da_nil)) (nomark _))
    (ss_one (s_ret de_bl))
    ss_nil)
    (ss_cons (s_for (passes_of rfl) rfl (di_any rfl (de_var 4 (pv 4))) (dg_name sc__law_held.nd rfl (.inr rfl))
    (ss_one (s_if (dt_cmp (od_ne rfl hr.units) (de_ix rfl hr.units (de_var 4 (pv 4)) (de_var 5 (pv 5)) (by intro _ _; rfl)) (de_callTy (cd_list rfl) (by rfl) T.b_list (by decide +kernel) (da_cons (de_ix rfl hr.units (de_var 1 (pv 1)) de_int (by intro _ _; rfl)) da_nil)) (nomark _))
    (ss_one (s_ret de_bl))
    ss_nil)))
    (ss_cons (s_set sc__law_held.nd rfl (.inl rfl) (de_cal (k__law_draw T) (hr.mono (by omega)) (by rfl) (takes_of rfl rfl rfl rfl) hl__law_held (dav_own (pv 0) (dav_cons (de_callB (cd_len rfl) (by rfl) T.b_len (by decide +kernel) (da_cons (de_ix rfl hr.units (de_var 1 (pv 1)) de_int (by intro _ _; rfl)) da_nil)) dav_nil))))
    (ss_cons (s_set sc__law_held.nd rfl (.inr rfl) (de_ix rfl hr.units (de_ix rfl hr.units (de_ix rfl hr.units (de_var 1 (pv 1)) de_int (by intro _ _; rfl)) (de_var 6 (pv 6)) (by intro _ _; rfl)) de_int (by intro _ _; rfl)))
    (ss_cons (s_set sc__law_held.nd rfl (.inr rfl) (de_ix rfl hr.units (de_ix rfl hr.units (de_var 1 (pv 1)) de_int (by intro _ _; rfl)) (de_cal (k__law_draw T) (hr.mono (by omega)) (by rfl) (takes_of rfl rfl rfl rfl) hl__law_held (dav_own (pv 0) (dav_cons (de_callB (cd_len rfl) (by rfl) T.b_len (by decide +kernel) (da_cons (de_ix rfl hr.units (de_var 1 (pv 1)) de_int (by intro _ _; rfl)) da_nil)) dav_nil))) (by intro _ _; rfl)))
    (ss_cons (s_asg (de_cal (k_world_or_tree T) (hr.mono (by omega)) (by rfl) (takes_of rfl rfl rfl rfl) hl__law_held (dav_cons (de_var 1 (pv 1)) (dav_cons (de_var 2 (pv 2)) (dav_cons (de_var 5 (pv 5)) (dav_cons (de_var 7 (pv 7)) dav_nil))))) (dg_tup rfl rfl (dgs_cons (dg_name sc__law_held.nd rfl (.inl rfl)) (dgs_cons (dg_name sc__law_held.nd rfl (.inl rfl)) dgs_nil))))
    (ss_cons (s_if (dt_w (dw_or (dt_cmp (od_ne rfl hr.units) (de_var 8 (pv 8)) de_str (nomark _)) (dw_or (dt_cmp (od_ne rfl hr.units) (de_ix rfl hr.units (de_var 9 (pv 9)) (de_var 6 (pv 6)) (by intro _ _; rfl)) (de_var 7 (pv 7)) (nomark _)) (dw_or1 (dt_not (dt_val (de_cal (k_fits T) (hr.mono (by omega)) (by rfl) (takes_of rfl rfl rfl rfl) hl__law_held (dav_cons (de_var 1 (pv 1)) (dav_cons (de_var 9 (pv 9)) (dav_cons (de_var 2 (pv 2)) dav_nil))))))))))
    (ss_one (s_ret de_bl))
    ss_nil)
    (ss_cons (s_set sc__law_held.nd rfl (.inl rfl) (de_ix rfl hr.units (de_cal (k__law_keys T) (hr.mono (by omega)) (by rfl) (takes_of rfl rfl rfl rfl) hl__law_held (dav_cons (de_var 1 (pv 1)) (dav_cons (de_op (od_mul rfl) (de_lst (da_cons de_int da_nil)) (de_callB (cd_len rfl) (by rfl) T.b_len (by decide +kernel) (da_cons (de_ix rfl hr.units (de_var 1 (pv 1)) de_int (by intro _ _; rfl)) da_nil))) dav_nil))) (de_var 6 (pv 6)) (by intro _ _; rfl)))
    (ss_cons (s_set sc__law_held.nd rfl (.inl rfl) (de_tup (da_cons de_str (da_cons de_int (da_cons (de_var 10 (pv 10)) (da_cons (de_var 7 (pv 7)) da_nil))))))
    (ss_cons (s_setL hl__law_held sc__law_held.nd rfl (.inl rfl) (df_lst (da_cons (de_var 11 (pv 11)) (da_cons (de_tup (da_cons de_str (da_cons (de_var 5 (pv 5)) (da_cons (de_op (od_mul rfl) (de_tup (da_cons (de_var 11 (pv 11)) da_nil)) (de_callB (cd_len rfl) (by rfl) T.b_len (by decide +kernel) (da_cons (de_ix rfl hr.units (de_var 1 (pv 1)) de_int (by intro _ _; rfl)) da_nil))) da_nil)))) (da_cons (de_tup (da_cons de_str (da_cons de_str (da_cons (de_op (od_mul rfl) (de_tup (da_cons (de_var 11 (pv 11)) da_nil)) (de_callB (cd_len rfl) (by rfl) T.b_len (by decide +kernel) (da_cons (de_ix rfl hr.units (de_var 1 (pv 1)) de_int (by intro _ _; rfl)) da_nil))) da_nil)))) (da_cons (de_var 9 (pv 9)) (da_cons (de_tup da_nil) da_nil)))))))
    (ss_cons (s_set sc__law_held.nd rfl (.inl rfl) (de_ix rfl hr.units (de_ix rfl hr.units (de_ix rfl hr.units (de_var 1 (pv 1)) de_int (by intro _ _; rfl)) de_int (by intro _ _; rfl)) de_int (by intro _ _; rfl)))
    (ss_cons (s_expr (de_mut1 PySem.F.slot_list_append PySem.F.type_list_append mt_append r_append (pv 12) (de_tup (da_cons de_str (da_cons (de_var 13 (pv 13)) (da_cons (de_callTy (cd_tuple rfl) (by rfl) T.b_tuple (by decide +kernel) (da_cons (de_op (od_mul rfl) (de_lst (da_cons (de_tup (da_cons de_str (da_cons (de_var 13 (pv 13)) (da_cons (de_op (od_mul rfl) (de_tup (da_cons (de_var 11 (pv 11)) da_nil)) (de_callB (cd_len rfl) (by rfl) T.b_len (by decide +kernel) (da_cons (de_ix rfl hr.units (de_var 1 (pv 1)) de_int (by intro _ _; rfl)) da_nil))) da_nil)))) da_nil)) (de_callB (cd_len rfl) (by rfl) T.b_len (by decide +kernel) (da_cons (de_ix rfl hr.units (de_var 1 (pv 1)) de_int (by intro _ _; rfl)) da_nil))) da_nil)) da_nil))))))
    (ss_one (s_ret (de_not (de_callB (cd_any rfl rfl) (by rfl) T.b_any (by decide +kernel) (da_cons (de_fl hl__law_held (df_lc (own := [("tree", 15)]) rfl sc__law_held.nd (di_any rfl (de_var 12 (pv 12))) (blkOk_by (own := [("tree", 15)]) (N := N__law_held) (sc := defScope s__law_held) (by decide +kernel)) (by decide) (fun _ _ _ _ _ => (dg_name sc__law_held.nd rfl (.inl rfl))) (fun _ _ _ _ _ => dts_nil) (fun _ _ _ _ _ => (de_cal (k_tree_holds T) (hr.mono (by omega)) (by rfl) takes0 hl__law_held (dav_cons (de_var 1 (pv 1)) (dav_cons (de_var 2 (pv 2)) (dav_cons (de_var 5 (pv 5)) (dav_cons (de_var 7 (pv 7)) (dav_cons (de_var 15 (pv 15)) dav_nil))))))))) da_nil))))))))))))))))))))))
theorem k_law (T : Tx K mg ct) {f : Addr} {fd : FuncData} (F : Fun K "law" "law" s_law f fd) : FnOk P w K mg base (L2.CX P w) 48 f fd p_law (spF K ct (fun G _ _ v d => Dr K G v d) 1 f_law) :=
  fun_okN (k := 47) (m := 2) (Sf := b_law) F sc_law rfl fun Pp cdv A outer s H E hr =>
    (ss_cons (s_for (passes_of rfl) rfl (di_enum rfl (by rfl) T.b_enumerate (da_cons (de_op (od_add rfl) (de_lst (da_cons (de_callB (cd_len rfl) (by rfl) T.b_len (by decide +kernel) (da_cons (de_var 0 (pv 0)) da_nil)) da_nil)) (de_sl rfl (de_var 0 (pv 0)) do_none (do_some de_int))) da_nil)) (dg_tup rfl rfl (dgs_cons (dg_name sc_law.nd rfl (.inl rfl)) (dgs_cons (dg_name sc_law.nd rfl (.inl rfl)) dgs_nil)))
    (ss_one (s_if (dt_not (dt_val (de_cal (k__law_held T) (hr.mono (by omega)) (by rfl) (takes_of rfl rfl rfl rfl) hl_law (dav_new (df_cal (k__law_bag T) (hr.mono (by omega)) (by rfl) (takes_of rfl rfl rfl rfl) hl_law (dav_cons (de_var 2 (pv 2)) (dav_cons (de_var 1 (pv 1)) dav_nil)))))))
    (ss_one (s_ret de_bl))
    ss_nil)))
    (ss_one (s_ret de_bl)))
end
end DL

/-! P0: what a plain text gives: Wr (expressions), Wf (statements). -/
namespace DL
open PySem PySem.Spec PyProof.Rows L2
def Wr {α : Type} (r : R α) (Q : α → Env → Prop) : Prop := match r with
  | .ok d ρ => Q d ρ
  | _ => False
def Wf {α : Type} (r : FlR α) (N : Env → Prop) (T : α → Env → Prop) : Prop := match r with
  | .nx ρ => N ρ
  | .rt d ρ => T d ρ
  | _ => False
def Ho {α : Type} (o : Option α) (k : α → Prop) : Prop := ∃ z, o = some z ∧ k z
section
variable {α β : Type}
theorem Wr.mono {r : R α} {Q Q' : α → Env → Prop} (h : Wr r Q) (m : ∀ d ρ, Q d ρ → Q' d ρ) : Wr r Q' := by
  cases r with
  | ok d ρ => exact m d ρ h
  | er _ _ => exact h.elim
  | bad => exact h.elim
theorem wr_iff {r : R α} {Q Q' : α → Env → Prop} (h : ∀ d ρ, Q d ρ ↔ Q' d ρ) : Wr r Q ↔ Wr r Q' := ⟨fun x => x.mono fun d ρ => (h d ρ).mp, fun x => x.mono fun d ρ => (h d ρ).mpr⟩
theorem Wf.mono {r : FlR α} {N N' : Env → Prop} {T T' : α → Env → Prop} (h : Wf r N T) (m : ∀ ρ, N ρ → N' ρ) (t : ∀ d ρ, T d ρ → T' d ρ) : Wf r N' T' := by
  cases r with
  | nx ρ => exact m ρ h
  | rt d ρ => exact t d ρ h
  | er _ _ => exact h.elim
  | bad => exact h.elim
  | bk _ => exact h.elim
  | ct _ => exact h.elim
theorem Wr.get {r : R α} {Q : α → Env → Prop} (h : Wr r Q) : ∃ d ρ, r = .ok d ρ ∧ Q d ρ := by
  cases r with
  | ok d ρ => exact ⟨d, ρ, rfl, h⟩
  | er _ _ => exact h.elim
  | bad => exact h.elim
@[simp] theorem ho_some {z : α} {k : α → Prop} : Ho (some z) k = k z := by simp [Ho]
@[simp] theorem ho_none {k : α → Prop} : Ho none k = False := by simp [Ho]
@[simp] theorem wr_ok {d : α} {ρ : Env} {Q : α → Env → Prop} : Wr (.ok d ρ) Q = Q d ρ := rfl
@[simp] theorem wr_bad {Q : α → Env → Prop} : Wr (.bad) Q = False := rfl
@[simp] theorem wr_er {x : Ex} {ρ : Env} {Q : α → Env → Prop} : Wr (.er x ρ) Q = False := rfl
@[simp] theorem wf_nx {ρ : Env} {N : Env → Prop} {T : α → Env → Prop} : Wf (.nx ρ) N T = N ρ := rfl
@[simp] theorem wf_rt {d : α} {ρ : Env} {N : Env → Prop} {T : α → Env → Prop} : Wf (.rt d ρ) N T = T d ρ := rfl
@[simp] theorem wf_bad {N : Env → Prop} {T : α → Env → Prop} : Wf (.bad) N T = False := rfl
@[simp] theorem wf_er {x : Ex} {ρ : Env} {N : Env → Prop} {T : α → Env → Prop} : Wf (.er x ρ) N T = False := rfl
@[simp] theorem wr_bind {r : R α} {k : α → Env → R β} {Q : β → Env → Prop} : Wr (r.bind k) Q = Wr r (fun d ρ => Wr (k d ρ) Q) := by cases r <;> rfl
@[simp] theorem wf_toF {r : R α} {k : α → Env → FlR β} {N : Env → Prop} {T : β → Env → Prop} : Wf (toF r k) N T = Wr r (fun d ρ => Wf (k d ρ) N T) := by cases r <;> rfl
/-- an answer that may not be -/
theorem wr_opt {o : Option α} {ρ : Env} {Q : α → Env → Prop} : Wr (match o with | some z => .ok z ρ | none => .bad) Q = Ho o (fun z => Q z ρ) := by cases o <;> simp
variable {c : Cell} {ρ : Env}
/-! ### expressions -/
section
variable {Q : PyData → Env → Prop} {QB : Bool → Env → Prop} {QL : List PyData → Env → Prop} {QA : List AV → Env → Prop}
@[simp] theorem we_c {d : PyData} : Wr (eC d (c :: ρ)) Q = Q d (c :: ρ) := rfl
def atVar (i : Nat) (ρ : Env) : Option Cell → R PyData
  | some (.fr d) => .ok d ρ
  | some (.ol _ ds) => .ok (.list ds) (ρ.set i (.fr (.list ds)))
  | some (.od _ kvs) => .ok (.dict kvs) (ρ.set i (.fr (.dict kvs)))
  | _ => .bad
@[simp] theorem atVar_fr {i : Nat} {d : PyData} : atVar i ρ (some (.fr d)) = .ok d ρ := rfl
@[simp] theorem atVar_ol {i : Nat} {b : Bool} {ds : List PyData} : atVar i ρ (some (.ol b ds)) = .ok (.list ds) (ρ.set i (.fr (.list ds))) := rfl
@[simp] theorem we_var {i : Nat} : Wr (eVar i (c :: ρ)) Q = Wr (atVar i (c :: ρ) ((c :: ρ)[i]?)) Q := by
  unfold eVar atVar
  congr 1
@[simp] theorem we_anil : Wr (aNil (c :: ρ)) QL = QL [] (c :: ρ) := rfl
@[simp] theorem we_acons {f : Env → R PyData} {g : Env → R (List PyData)} : Wr (aCons f g (c :: ρ)) QL = Wr (f (c :: ρ)) fun d ρ1 => Wr (g ρ1) fun ds ρ2 => QL (d :: ds) ρ2 := by simp only [aCons, wr_bind, wr_ok]
@[simp] theorem we_tup {g : Env → R (List PyData)} : Wr (eTup g (c :: ρ)) Q = Wr (g (c :: ρ)) fun ds ρ1 => Q (.tuple ds) ρ1 := by simp only [eTup, wr_bind, wr_ok]
@[simp] theorem we_lst {g : Env → R (List PyData)} : Wr (eLst g (c :: ρ)) Q = Wr (g (c :: ρ)) fun ds ρ1 => Q (.list ds) ρ1 := by simp only [eLst, wr_bind, wr_ok]
@[simp] theorem we_op {g : PyData → PyData → Option PyData} {fa fb : Env → R PyData} : Wr (eOp g fa fb (c :: ρ)) Q = Wr (fa (c :: ρ)) fun d ρ1 => Wr (fb ρ1) fun e ρ2 => Ho (g d e) fun z => Q z ρ2 := by
  simp only [eOp, wr_bind]
  refine congrArg _ (funext fun d => funext fun ρ1 => congrArg _ (funext fun e => funext fun ρ2 => ?_))
  cases g d e <;> simp
@[simp] theorem we_un {g : PyData → Option PyData} {fa : Env → R PyData} : Wr (eUn g fa (c :: ρ)) Q = Wr (fa (c :: ρ)) fun d ρ1 => Ho (g d) fun z => Q z ρ1 := by
  simp only [eUn, wr_bind]
  refine congrArg _ (funext fun d => funext fun ρ1 => ?_)
  cases g d <;> simp
@[simp] theorem we_cmp {g : PyData → PyData → Option Bool} {fa fb : Env → R PyData} : Wr (eCmp g fa fb (c :: ρ)) Q = Wr (fa (c :: ρ)) fun d ρ1 => Wr (fb ρ1) fun e ρ2 => Ho (g d e) fun z => Q (.bool z) ρ2 := by
  simp only [eCmp, wr_bind]
  refine congrArg _ (funext fun d => funext fun ρ1 => congrArg _ (funext fun e => funext fun ρ2 => ?_))
  cases g d e <;> simp
@[simp] theorem wc_cmp {g : PyData → PyData → Option Bool} {fa fb : Env → R PyData} : Wr (cCmp g fa fb (c :: ρ)) QB = Wr (fa (c :: ρ)) fun d ρ1 => Wr (fb ρ1) fun e ρ2 => Ho (g d e) fun z => QB z ρ2 := by
  simp only [cCmp, wr_bind]
  refine congrArg _ (funext fun d => funext fun ρ1 => congrArg _ (funext fun e => funext fun ρ2 => ?_))
  cases g d e <;> simp
@[simp] theorem wc_isN {fa : Env → R PyData} : Wr (cIsN fa (c :: ρ)) QB = Wr (fa (c :: ρ)) fun d ρ1 => QB (isNon d) ρ1 := by simp only [cIsN, wr_bind, wr_ok]
@[simp] theorem wc_notN {fa : Env → R PyData} : Wr (cNotN fa (c :: ρ)) QB = Wr (fa (c :: ρ)) fun d ρ1 => QB (!isNon d) ρ1 := by simp only [cNotN, wr_bind, wr_ok]
@[simp] theorem we_isN {fa : Env → R PyData} : Wr (eIsN fa (c :: ρ)) Q = Wr (fa (c :: ρ)) fun d ρ1 => Q (.bool (isNon d)) ρ1 := by simp only [eIsN, wr_bind, wr_ok]
@[simp] theorem we_notN {fa : Env → R PyData} : Wr (eNotN fa (c :: ρ)) Q = Wr (fa (c :: ρ)) fun d ρ1 => Q (.bool (!isNon d)) ρ1 := by simp only [eNotN, wr_bind, wr_ok]
/-- a truth value -/
def blOf : PyData → Option Bool
  | .bool b => some b
  | _ => none
@[simp] theorem blOf_bool {b : Bool} : blOf (.bool b) = some b := rfl
@[simp] theorem wc_val {f : Env → R PyData} : Wr (cVal f (c :: ρ)) QB = Wr (f (c :: ρ)) fun d ρ1 => Ho (blOf d) fun b => QB b ρ1 := by
  simp only [cVal, wr_bind]
  refine congrArg _ (funext fun d => funext fun ρ1 => ?_)
  cases d <;> simp [blOf]
@[simp] theorem wc_not {f : Env → R Bool} : Wr (cNot f (c :: ρ)) QB = Wr (f (c :: ρ)) fun b ρ1 => QB (!b) ρ1 := by simp only [cNot, wr_bind, wr_ok]
@[simp] theorem wc_and {f g : Env → R Bool} : Wr (cAnd f g (c :: ρ)) QB = Wr (f (c :: ρ)) fun b ρ1 => if b = true then Wr (g ρ1) QB else QB false ρ1 := by
  simp only [cAnd, wr_bind]
  refine congrArg _ (funext fun d => funext fun ρ1 => ?_)
  cases d <;> simp
@[simp] theorem wc_or {f g : Env → R Bool} : Wr (cOr f g (c :: ρ)) QB = Wr (f (c :: ρ)) fun b ρ1 => if b = true then QB true ρ1 else Wr (g ρ1) QB := by
  simp only [cOr, wr_bind]
  refine congrArg _ (funext fun d => funext fun ρ1 => ?_)
  cases d <;> simp
@[simp] theorem we_and {f g : Env → R PyData} : Wr (eAnd f g (c :: ρ)) Q = Wr (f (c :: ρ)) fun d ρ1 => Ho (blOf d) fun b => if b = true then Wr (g ρ1) Q else Q (.bool false) ρ1 := by
  simp only [eAnd, wr_bind]
  refine congrArg _ (funext fun d => funext fun ρ1 => ?_)
  cases d <;> simp [blOf]
  case bool b => cases b <;> simp
@[simp] theorem we_or {f g : Env → R PyData} : Wr (eOr f g (c :: ρ)) Q = Wr (f (c :: ρ)) fun d ρ1 => Ho (blOf d) fun b => if b = true then Q (.bool true) ρ1 else Wr (g ρ1) Q := by
  simp only [eOr, wr_bind]
  refine congrArg _ (funext fun d => funext fun ρ1 => ?_)
  cases d <;> simp [blOf]
  case bool b => cases b <;> simp
@[simp] theorem we_not {f : Env → R PyData} : Wr (eNot f (c :: ρ)) Q = Wr (f (c :: ρ)) fun d ρ1 => Ho (blOf d) fun b => Q (.bool (!b)) ρ1 := by
  simp only [eNot, wr_bind]
  refine congrArg _ (funext fun d => funext fun ρ1 => ?_)
  cases d <;> simp [blOf]
@[simp] theorem we_if {t : Env → R Bool} {f g : Env → R PyData} : Wr (eIf t f g (c :: ρ)) Q = Wr (t (c :: ρ)) fun b ρ1 => if b = true then Wr (f ρ1) Q else Wr (g ρ1) Q := by
  simp only [eIf, wr_bind]
  refine congrArg _ (funext fun d => funext fun ρ1 => ?_)
  cases d <;> simp
@[simp] theorem we_chain {g g' : PyData → PyData → Option Bool} {fa fb fc : Env → R PyData} : Wr (eChain g g' fa fb fc (c :: ρ)) Q = Wr (fa (c :: ρ)) fun d ρ1 => Wr (fb ρ1) fun e ρ2 => Ho (g d e) fun z => if z = true then Wr (fc ρ2) fun h ρ3 => Ho (g' e h) fun y => Q (.bool y) ρ3 else Q (.bool false) ρ2 := by
  simp only [eChain, wr_bind]
  refine congrArg _ (funext fun d => funext fun ρ1 => congrArg _ (funext fun e => funext fun ρ2 => ?_))
  cases g d e with
  | none => simp
  | some z =>
    cases z
    · simp
    · simp
      refine wr_iff fun h ρ3 => ?_
      cases g' e h <;> simp
@[simp] theorem wc_chain {g g' : PyData → PyData → Option Bool} {fa fb fc : Env → R PyData} : Wr (cChain g g' fa fb fc (c :: ρ)) QB = Wr (fa (c :: ρ)) fun d ρ1 => Wr (fb ρ1) fun e ρ2 => Ho (g d e) fun z => if z = true then Wr (fc ρ2) fun h ρ3 => Ho (g' e h) fun y => QB y ρ3 else QB false ρ2 := by
  simp only [cChain, wr_bind]
  refine congrArg _ (funext fun d => funext fun ρ1 => congrArg _ (funext fun e => funext fun ρ2 => ?_))
  cases g d e with
  | none => simp
  | some z =>
    cases z
    · simp
    · simp
      refine wr_iff fun h ρ3 => ?_
      cases g' e h <;> simp
@[simp] theorem we_call {g : List PyData → Option PyData} {f : Env → R (List PyData)} : Wr (eCall g f (c :: ρ)) Q = Wr (f (c :: ρ)) fun ds ρ1 => Ho (g ds) fun z => Q z ρ1 := by
  simp only [eCall, wr_bind]
  refine congrArg _ (funext fun d => funext fun ρ1 => ?_)
  cases g d <;> simp
@[simp] theorem we_isi {t : String} {f : Env → R PyData} : Wr (eIsi t f (c :: ρ)) Q = Wr (f (c :: ρ)) fun d ρ1 => Ho (isiD t d) fun z => Q z ρ1 := by
  simp only [eIsi, wr_bind]
  refine congrArg _ (funext fun d => funext fun ρ1 => ?_)
  cases isiD t d <;> simp
@[simp] theorem wi_of {g : PyData → Option (List PyData)} {f : Env → R PyData} : Wr (iOf g f (c :: ρ)) QL = Wr (f (c :: ρ)) fun d ρ1 => Ho (g d) fun z => QL z ρ1 := by
  simp only [iOf, wr_bind]
  refine congrArg _ (funext fun d => funext fun ρ1 => ?_)
  cases g d <;> simp
@[simp] theorem wi_args {g : List PyData → Option (List PyData)} {f : Env → R (List PyData)} : Wr (iArgs g f (c :: ρ)) QL = Wr (f (c :: ρ)) fun d ρ1 => Ho (g d) fun z => QL z ρ1 := by
  simp only [iArgs, wr_bind]
  refine congrArg _ (funext fun d => funext fun ρ1 => ?_)
  cases g d <;> simp
@[simp] theorem we_fl {f : Env → R (List PyData)} : Wr (eFl f (c :: ρ)) Q = Wr (f (c :: ρ)) fun ds ρ1 => Q (.list ds) ρ1 := by simp only [eFl, wr_bind, wr_ok]
@[simp] theorem we_fd {f : Env → R (List (PyData × PyData))} : Wr (eFd f (c :: ρ)) Q = Wr (f (c :: ρ)) fun ds ρ1 => Q (.dict ds) ρ1 := by simp only [eFd, wr_bind, wr_ok]
def intOf : PyData → Option Int
  | .int n => some n
  | _ => none
@[simp] theorem intOf_int {n : Int} : intOf (.int n) = some n := rfl
@[simp] theorem wo_none {QO : Option Int → Env → Prop} : Wr (oNone (c :: ρ)) QO = QO none (c :: ρ) := rfl
@[simp] theorem wo_some {f : Env → R PyData} {QO : Option Int → Env → Prop} : Wr (oSome f (c :: ρ)) QO = Wr (f (c :: ρ)) fun d ρ1 => Ho (intOf d) fun n => QO (some n) ρ1 := by
  simp only [oSome, wr_bind]
  refine congrArg _ (funext fun d => funext fun ρ1 => ?_)
  cases d <;> simp [intOf]
@[simp] theorem we_sl {f : Env → R PyData} {lo hi : Env → R (Option Int)} : Wr (eSl f lo hi (c :: ρ)) Q = Wr (f (c :: ρ)) fun d ρ1 => Wr (lo ρ1) fun l ρ2 => Wr (hi ρ2) fun h ρ3 => Ho (slD d l h) fun z => Q z ρ3 := by
  simp only [eSl, wr_bind]
  refine congrArg _ (funext fun d => funext fun ρ1 => congrArg _ (funext fun l => funext fun ρ2 => congrArg _ (funext fun h => funext fun ρ3 => ?_)))
  cases slD d l h <;> simp
/-- the own list in a slot -/
def olOf : Option Cell → Option (Bool × List PyData)
  | some (.ol b ds) => some (b, ds)
  | _ => none
@[simp] theorem olOf_ol {b : Bool} {ds : List PyData} : olOf (some (.ol b ds)) = some (b, ds) := rfl
@[simp] theorem we_lenO {i : Nat} : Wr (eLenO i (c :: ρ)) Q = Ho (olOf (c :: ρ)[i]?) fun p => Q (.int p.2.length) (c :: ρ) := by
  simp only [eLenO]
  cases e : (c :: ρ)[i]? with
  | none => simp [olOf]
  | some z => cases z <;> simp [olOf]
@[simp] theorem we_ixO {i : Nat} {f : Env → R PyData} : Wr (eIxO i f (c :: ρ)) Q = Ho (olOf (c :: ρ)[i]?) fun _ => Wr (f (c :: ρ)) fun e ρ2 => Ho (olOf ρ2[i]?) fun p => Ho (intOf e) fun k => Ho (atI p.2 k) fun z => Q z ρ2 := by
  simp only [eIxO]
  cases e : (c :: ρ)[i]? with
  | none => simp [olOf]
  | some z =>
    cases z <;> simp [olOf]
    refine wr_iff fun d ρ2 => ?_
    cases e2 : ρ2[i]? with
    | none => simp [olOf]
    | some z2 =>
      cases z2 <;> cases d <;> simp [olOf, intOf]
      rename_i ds k
      cases atI ds k <;> simp
@[simp] theorem we_mut1 {g : List PyData → PyData → Option (PyData × List PyData)} {i : Nat} {f : Env → R PyData} : Wr (eMut1 g i f (c :: ρ)) Q = Ho (olOf (c :: ρ)[i]?) fun _ => Wr (f (c :: ρ)) fun e ρ2 => Ho (olOf ρ2[i]?) fun p => Ho (g p.2 e) fun z => Q z.1 (ρ2.set i (.ol p.1 z.2)) := by
  simp only [eMut1]
  cases e : (c :: ρ)[i]? with
  | none => simp [olOf]
  | some z =>
    cases z <;> simp [olOf]
    refine wr_iff fun d ρ2 => ?_
    cases e2 : ρ2[i]? with
    | none => simp [olOf]
    | some z2 =>
      cases z2 <;> simp [olOf]
      rename_i b ds
      cases g ds d <;> simp
/-! ### calls -/
@[simp] theorem wa_nil : Wr (avNil (c :: ρ)) QA = QA [] (c :: ρ) := rfl
def AV.plain : AV → Bool
  | .new _ => false
  | .ins _ _ => false
  | _ => true
@[simp] theorem plain_val {d : PyData} : (AV.val d).plain = true := rfl
@[simp] theorem plain_own {i : Nat} : (AV.own i).plain = true := rfl
@[simp] theorem wa_cons {f : Env → R PyData} {g : Env → R (List AV)} : Wr (avCons f g (c :: ρ)) QA = Wr (f (c :: ρ)) fun d ρ1 => Wr (g ρ1) fun ds ρ2 => ds.all AV.plain = true ∧ QA (.val d :: ds) ρ2 := by
  simp only [avCons, wr_bind]
  refine congrArg _ (funext fun d => funext fun ρ1 => congrArg _ (funext fun ds => funext fun ρ2 => ?_))
  by_cases h : ds.all AV.plain = true
  · exact (congrArg (fun r => Wr r QA) (if_pos h)).trans (by simp [h])
  · exact (congrArg (fun r => Wr r QA) (if_neg h)).trans (by simp [h])
@[simp] theorem wa_own {i : Nat} {g : Env → R (List AV)} : Wr (avOwn i g (c :: ρ)) QA = (((c :: ρ)[i]?.bind pinC).isSome = true ∧ Wr (g (c :: ρ)) fun ds ρ1 => QA (.own i :: ds) ρ1) := by
  simp only [avOwn]
  cases (c :: ρ)[i]?.bind pinC <;> simp
@[simp] theorem wa_new {f : Env → R (List PyData)} : Wr (avNew f (c :: ρ)) QA = Wr (f (c :: ρ)) fun d ρ1 => QA [.new d] ρ1 := by simp only [avNew, wr_bind, wr_ok]
@[simp] theorem w_callF {γ : Type} {QG : γ → Env → Prop} {n : Nat} {F : Env → R γ} {g : Env → R (List AV)} : Wr (eCallF n F g (c :: ρ)) QG = Wr (g (c :: ρ)) fun avs ρ1 => avs.length = n ∧ Wr (runF F avs ρ1) QG := by
  simp only [eCallF, wr_bind]
  refine congrArg _ (funext fun avs => funext fun ρ1 => ?_)
  by_cases h : avs.length = n
  · rw [if_pos h]; simp [h]
  · rw [if_neg h]; simp [h]
@[simp] theorem w_runF {γ : Type} {QG : γ → Env → Prop} {F : Env → R γ} {avs : List AV} : Wr (runF F avs (c :: ρ)) QG = (keysOk avs = true ∧ Ho (cellsAV (c :: ρ) avs) fun cs => Wr (F cs) fun d ρ' => QG d (backAV (c :: ρ) ρ' 0 avs)) := by
  simp only [runF]
  by_cases h : keysOk avs = true
  · rw [if_pos h]
    cases cellsAV (c :: ρ) avs with
    | none => simp
    | some cs =>
      simp only [ho_some, h, true_and]
      cases F cs <;> simp
  · rw [if_neg h]; simp [h]
end
/-! ### statements -/
section
variable {N : Env → Prop} {T : α → Env → Prop}
@[simp] theorem ws_nil : Wf (sNil (c :: ρ)) N T = N (c :: ρ) := rfl
theorem wf_seq {f g : Env → FlR α} {ρ : Env} : Wf (sSeq f g ρ) N T = Wf (f ρ) (fun ρ1 => Wf (g ρ1) N T) T := by
  unfold sSeq
  cases f ρ <;> rfl
@[simp] theorem ws_seq {f g : Env → FlR α} : Wf (sSeq f g (c :: ρ)) N T = Wf (f (c :: ρ)) (fun ρ1 => Wf (g ρ1) N T) T := wf_seq
@[simp] theorem ws_do {f : Env → R PyData} : Wf (sDo f (c :: ρ)) N T = Wr (f (c :: ρ)) fun _ ρ1 => N ρ1 := by simp only [sDo, wf_toF, wf_nx]
@[simp] theorem ws_ret {f : Env → R α} : Wf (sRet f (c :: ρ)) N T = Wr (f (c :: ρ)) fun d ρ1 => T d ρ1 := by simp only [sRet, wf_toF, wf_rt]
@[simp] theorem ws_if {t : Env → R Bool} {f g : Env → FlR α} : Wf (sIf t f g (c :: ρ)) N T = Wr (t (c :: ρ)) fun b ρ1 => if b = true then Wf (f ρ1) N T else Wf (g ρ1) N T := by
  simp only [sIf, wf_toF]
  refine congrArg _ (funext fun b => funext fun ρ1 => ?_)
  cases b <;> simp
@[simp] theorem ws_set {i : Nat} {f : Env → R PyData} : Wf (sSet i f (c :: ρ)) N T = Wr (f (c :: ρ)) fun d ρ1 => N (ρ1.set i (.fr d)) := by simp only [sSet, wf_toF, wf_nx]
@[simp] theorem ws_setL {i : Nat} {f : Env → R (List PyData)} : Wf (sSetL i f (c :: ρ)) N T = Wr (f (c :: ρ)) fun d ρ1 => N (ρ1.set i (.ol false d)) := by simp only [sSetL, wf_toF, wf_nx]
@[simp] theorem ws_fl {i : Nat} {f : Env → R (List PyData)} : Wf (sFl i f (c :: ρ)) N T = Wr (f (c :: ρ)) fun d ρ1 => N (ρ1.set i (.fr (.list d))) := by simp only [sFl, ws_set, we_fl]
@[simp] theorem ws_asg {f : Env → R PyData} {g : TgF} : Wf (sAsg f g (c :: ρ)) N T = Wr (f (c :: ρ)) fun d ρ1 => Ho (g d ρ1) N := by
  simp only [sAsg, wf_toF]
  refine congrArg _ (funext fun d => funext fun ρ1 => ?_)
  cases g d ρ1 <;> simp
@[simp] theorem ws_par {i j : Nat} {f g : Env → R PyData} : Wf (sPar i j (aCons f (aCons g aNil)) (c :: ρ)) N T = Wr (f (c :: ρ)) fun d ρ1 => Wr (g ρ1) fun e ρ2 => Wr (aNil ρ2) fun _ ρ3 => N ((ρ3.set i (.fr d)).set j (.fr e)) := by
  simp only [sPar, wf_toF, aCons, wr_bind, wr_ok]
  refine congrArg _ (funext fun d => funext fun ρ1 => congrArg _ (funext fun e => funext fun ρ2 => ?_))
  simp [aNil]
@[simp] theorem ws_for {it : Env → R (List PyData)} {g : TgF} {F : Env → FlR α} : Wf (sFor it g F (c :: ρ)) N T = Wr (it (c :: ρ)) fun ds ρ1 => Wf (forGo g F ds ρ1) N T := by simp only [sFor, wf_toF]
@[simp] theorem ws_while {n : Nat} {t : Env → R Bool} {F : Env → FlR α} : Wf (sWhile n t F (c :: ρ)) N T = Wf (whileGo t F n (c :: ρ)) N T := rfl
@[simp] theorem ws_subL {i : Nat} {fi fe : Env → R PyData} : Wf (sSubL i fi fe (c :: ρ)) N T = Wr (fe (c :: ρ)) fun d ρ1 => Ho (olOf ρ1[i]?) fun _ => Wr (fi ρ1) fun k ρ2 => Ho (olOf ρ2[i]?) fun p => Ho (intOf k) fun n => Ho (ixN p.2.length n) fun j => N (ρ2.set i (.ol p.1 (p.2.set j d))) := by
  simp only [sSubL, wf_toF]
  refine congrArg _ (funext fun d => funext fun ρ1 => ?_)
  cases e : ρ1[i]? with
  | none => simp [olOf]
  | some z =>
    cases z <;> simp [olOf]
    refine wr_iff fun k ρ2 => ?_
    cases e2 : ρ2[i]? with
    | none => simp [olOf]
    | some z2 =>
      cases z2 <;> cases k <;> simp [olOf, intOf]
      rename_i b ds n
      cases ixN ds.length n <;> simp
@[simp] theorem ws_augL {g : Int → Int → Int} {i : Nat} {k : Int} {fe : Env → R PyData} : Wf (sAugL g i k fe (c :: ρ)) N T = Ho (olOf (c :: ρ)[i]?) fun p => Ho (p.2[k.toNat]?) fun x => Ho (intOf x) fun a => Wr (fe (c :: ρ)) fun d ρ1 => Ho (olOf ρ1[i]?) fun q => Ho (intOf d) fun z => k.toNat < q.2.length ∧ N (ρ1.set i (.ol q.1 (q.2.set k.toNat (.int (g a z))))) := by
  simp only [sAugL]
  cases e : (c :: ρ)[i]? with
  | none => simp [olOf]
  | some z =>
    cases z <;> simp [olOf]
    rename_i b ds
    cases e3 : ds[k.toNat]? with
    | none => simp
    | some x =>
      cases x <;> simp [intOf]
      refine wr_iff fun d ρ1 => ?_
      cases e2 : ρ1[i]? with
      | none => simp [olOf]
      | some z2 =>
        cases z2 <;> cases d <;> simp [olOf, intOf]
        rename_i es n
        by_cases h : k.toNat < es.length
        · rw [if_pos h]; simp [h]
        · rw [if_neg h]; simp [h]
@[simp] theorem ws_aug {g : Int → Int → Int} {i : Nat} {fe : Env → R PyData} : Wf (sAug g i fe (c :: ρ)) N T = Wr (atVar i (c :: ρ) (c :: ρ)[i]?) fun x ρ0 => ρ0 = c :: ρ ∧ Ho (intOf x) fun a => Wr (fe (c :: ρ)) fun d ρ1 => Ho (intOf d) fun z => N (ρ1.set i (.fr (.int (g a z)))) := by
  simp only [sAug]
  cases e : (c :: ρ)[i]? with
  | none => simp [atVar]
  | some z =>
    cases z <;> simp [atVar, intOf]
    · rename_i d
      cases d <;> simp [intOf]
      refine wr_iff fun d ρ1 => ?_
      cases d <;> simp [intOf]
/-- a for, by an invariant -/
theorem wf_for {g : TgF} {F : Env → FlR α} : ∀ (ds : List PyData) (I : Nat → Env → Prop) (n : Nat) (ρ : Env), I n ρ → (∀ i d ρ, ds[i]? = some d → I (n + i) ρ → Ho (g d ρ) fun ρ' => Wf (F ρ') (I (n + i + 1)) T) → (∀ ρ, I (n + ds.length) ρ → N ρ) → Wf (forGo g F ds ρ) N T
  | [], I, n, ρ, h0, hs, hf => hf ρ h0
  | d :: r, I, n, ρ, h0, hs, hf => by
    have h1 := hs 0 d ρ rfl h0
    obtain ⟨ρ', e, h1⟩ := h1
    unfold forGo
    rw [e]
    show Wf (match F ρ' with | .nx ρ2 => forGo g F r ρ2 | .ct ρ2 => forGo g F r ρ2 | .bk ρ2 => .nx ρ2 | .rt x ρ2 => .rt x ρ2 | .er x ρ2 => .er x ρ2 | .bad => .bad) N T
    cases e2 : F ρ' with
    | nx ρ2 =>
      rw [e2] at h1
      refine wf_for r I (n + 1) ρ2 h1 (fun i d ρ hd hi => ?_) (fun ρ hi => hf ρ ?_)
      · have := hs (i + 1) d ρ hd (by rw [show n + (i + 1) = n + 1 + i from by omega]; exact hi)
        rw [show n + 1 + i + 1 = n + (i + 1) + 1 from by omega]
        exact this
      · rw [List.length_cons, show n + (r.length + 1) = n + 1 + r.length from by omega]
        exact hi
    | rt x ρ2 => rw [e2] at h1; exact h1
    | er _ _ => rw [e2] at h1; exact h1.elim
    | bad => rw [e2] at h1; exact h1.elim
    | bk _ => rw [e2] at h1; exact h1.elim
    | ct _ => rw [e2] at h1; exact h1.elim
/-- a while, by an invariant: I n, n turns left at most -/
theorem wf_while {t : Env → R Bool} {F : Env → FlR α} (I : Nat → Env → Prop) : ∀ (n : Nat) (ρ : Env) (k : Nat), n < k → I n ρ → (∀ n ρ, I n ρ → Wr (t ρ) fun b ρ1 => if b = true then ∃ m, n = m + 1 ∧ Wf (F ρ1) (I m) T else N ρ1) → Wf (whileGo t F k ρ) N T := by
    intro n
    induction n with
    | zero =>
      intro ρ k hk h0 hs
      obtain ⟨k, rfl⟩ : ∃ j, k = j + 1 := ⟨k - 1, by omega⟩
      unfold whileGo
      rw [wf_toF]
      refine (hs 0 ρ h0).mono fun b ρ1 h => ?_
      cases b with
      | false => simpa using h
      | true => simp at h
    | succ n ih =>
      intro ρ k hk h0 hs
      obtain ⟨k, rfl⟩ : ∃ j, k = j + 1 := ⟨k - 1, by omega⟩
      unfold whileGo
      rw [wf_toF]
      refine (hs (n + 1) ρ h0).mono fun b ρ1 h => ?_
      cases b with
      | false => simpa using h
      | true =>
        simp only [if_true] at h ⊢
        obtain ⟨m, em, h⟩ := h
        obtain rfl : n = m := by omega
        cases e2 : F ρ1 with
        | nx ρ2 => rw [e2] at h; exact ih ρ2 k (by omega) h hs
        | rt x ρ2 => rw [e2] at h; exact h
        | er _ _ => rw [e2] at h; exact h.elim
        | bad => rw [e2] at h; exact h.elim
        | bk _ => rw [e2] at h; exact h.elim
        | ct _ => rw [e2] at h; exact h.elim
end
/-! ### displays by a loop -/
theorem wr_lcGo {g : TgF} {tt : Env → R Bool} {te : Env → R PyData} {vs : List Nat} : ∀ (ds : List PyData) (I : Nat → List PyData → Env → Prop) (n : Nat) (acc : List PyData) (ρ : Env) {Q : List PyData → Env → Prop}, I n acc ρ →
    (∀ i d acc ρ, ds[i]? = some d → I (n + i) acc ρ → Ho (g d (wipeE ρ vs)) fun ρ2 => Wr (tt ρ2) fun b ρ3 => if b = true then Wr (te ρ3) fun x ρ4 => I (n + i + 1) (acc ++ [x]) (wipeE ρ4 vs) else I (n + i + 1) acc (wipeE ρ3 vs)) →
    (∀ xs ρ, I (n + ds.length) (acc ++ xs) ρ → Q xs ρ) → Wr (lcGo g tt te vs ds ρ) Q
  | [], I, n, acc, ρ, Q, h0, hs, hf => hf [] ρ (by simpa using h0)
  | d :: r, I, n, acc, ρ, Q, h0, hs, hf => by
    obtain ⟨ρ2, e, h1⟩ := hs 0 d acc ρ rfl h0
    obtain ⟨b, ρ3, e3, h1⟩ := h1.get
    unfold lcGo
    rw [e]
    simp only [e3]
    have nxt : ∀ i d a ρ, r[i]? = some d → I (n + 1 + i) a ρ → Ho (g d (wipeE ρ vs)) fun ρ2 => Wr (tt ρ2) fun b ρ3 => if b = true then Wr (te ρ3) fun x ρ4 => I (n + 1 + i + 1) (a ++ [x]) (wipeE ρ4 vs) else I (n + 1 + i + 1) a (wipeE ρ3 vs) := fun i d a ρ hd hi => by
      have := hs (i + 1) d a ρ hd (by rw [show n + (i + 1) = n + 1 + i from by omega]; exact hi)
      rw [show n + 1 + i + 1 = n + (i + 1) + 1 from by omega]
      exact this
    cases b with
    | true =>
      simp only [if_true] at h1 ⊢
      obtain ⟨x, ρ4, e4, h1⟩ := h1.get
      simp only [e4, wr_bind, wr_ok]
      refine wr_lcGo r I (n + 1) (acc ++ [x]) (wipeE ρ4 vs) h1 nxt fun xs ρ hi => hf (x :: xs) ρ ?_
      rw [List.length_cons, show n + (r.length + 1) = n + 1 + r.length from by omega, show acc ++ x :: xs = acc ++ [x] ++ xs from by simp]
      exact hi
    | false =>
      simp only [Bool.false_eq_true, if_false] at h1 ⊢
      refine wr_lcGo r I (n + 1) acc (wipeE ρ3 vs) h1 nxt fun xs ρ hi => hf xs ρ ?_
      rw [List.length_cons, show n + (r.length + 1) = n + 1 + r.length from by omega]
      exact hi
@[simp] theorem we_lc {it : Env → R (List PyData)} {g : TgF} {tt : Env → R Bool} {te : Env → R PyData} {vs : List Nat} {Q : List PyData → Env → Prop} : Wr (eLc it g tt te vs (c :: ρ)) Q = Wr (it (c :: ρ)) fun ds ρ1 => ds.length < lim ∧ Wr (lcGo g tt te vs ds (wipeE ρ1 vs)) fun xs ρ2 => Q xs (backE ρ1 ρ2 vs) := by
  simp only [eLc, wr_bind]
  refine congrArg _ (funext fun ds => funext fun ρ1 => ?_)
  by_cases h : ds.length < lim
  · rw [if_pos h]
    simp only [h, true_and]
    cases lcGo g tt te vs ds (wipeE ρ1 vs) <;> simp
  · rw [if_neg h]; simp [h]
end
end DL

/-! R0: order and equality of texts and keys, plainly. -/
namespace DL
open PySem PySem.Spec PyProof.Rows L2
/-! ### texts -/
def okS (s : Str) : Bool := true && PyData.strOk s
def sL (xs : List Str) : List PyData := xs.map .str
@[simp] theorem strs_nil : sL [] = [] := rfl
@[simp] theorem strs_cons {x : Str} {xs : List Str} : sL (x :: xs) = .str x :: sL xs := rfl
@[simp] theorem strs_len {xs : List Str} : (sL xs).length = xs.length := List.length_map _
theorem strs_app {xs ys : List Str} : sL (xs ++ ys) = sL xs ++ sL ys := List.map_append
theorem strs_inj {xs ys : List Str} (h : sL xs = sL ys) : xs = ys := List.map_inj_right (fun a b e => by injection e) |>.mp h
def sle (a b : Str) : Bool := sortLe (.str a) (.str b)
theorem sortLe_eq (a b : PyData) : sortLe a b = !PySem.W.dataLt b a := rfl
theorem sle_iff {a b : Str} : sle a b = true ↔ a.cps.toList ≤ b.cps.toList := by
  unfold sle
  rw [sortLe_eq, PySem.W.dataLt_str, PySem.W.not_lt_str, decide_eq_true_eq]
theorem sortLe_trans (a b c : PyData) (h1 : sortLe a b = true) (h2 : sortLe b c = true) : sortLe a c = true := by
  rw [sortLe_eq, Bool.not_eq_true'] at h1 h2 ⊢
  cases e : PySem.W.dataLt c a with
  | false => rfl
  | true =>
    rcases lex_negTrans (O := itemOrd) _ (PySem.W.keyToks b) _ e with q | q
    · exact absurd (h2.symm.trans q) (by simp)
    · exact absurd (h1.symm.trans q) (by simp)
theorem sortLe_total (a b : PyData) : (sortLe a b || sortLe b a) = true := by
  rw [sortLe_eq, sortLe_eq, Bool.or_eq_true, Bool.not_eq_true', Bool.not_eq_true']
  cases e : PySem.W.dataLt b a with
  | false => exact .inl rfl
  | true =>
    right
    cases e2 : PySem.W.dataLt a b with
    | false => rfl
    | true =>
      have q := lex_trans (O := itemOrd) _ _ _ e e2
      rw [lex_irrefl] at q
      cases q
theorem sle_trans (a b c : Str) (h1 : sle a b = true) (h2 : sle b c = true) : sle a c = true := sortLe_trans _ _ _ h1 h2
theorem sle_total (a b : Str) : (sle a b || sle b a) = true := sortLe_total _ _
theorem sle_refl (a : Str) : sle a a = true := by
  have := sle_total a a
  rw [Bool.or_self] at this
  exact this
theorem sle_anti {a b : Str} (h1 : sle a b = true) (h2 : sle b a = true) : a = b := by
  rw [sle_iff] at h1 h2
  exact PySem.W.str_of_cps (List.le_antisymm h1 h2)
def srt (xs : List Str) : List Str := xs.mergeSort sle
theorem srt_perm (xs : List Str) : (srt xs).Perm xs := List.mergeSort_perm _ _
theorem srt_pw (xs : List Str) : (srt xs).Pairwise (fun a b => sle a b = true) := List.pairwise_mergeSort sle_trans sle_total xs
@[simp] theorem srt_len (xs : List Str) : (srt xs).length = xs.length := List.length_mergeSort _
@[simp] theorem mem_srt {xs : List Str} {x : Str} : x ∈ srt xs ↔ x ∈ xs := (srt_perm xs).mem_iff
theorem pw_perm_eq : ∀ {xs ys : List Str}, xs.Pairwise (fun a b => sle a b = true) → ys.Pairwise (fun a b => sle a b = true) → xs.Perm ys → xs = ys := by
  intro xs ys h1 h2 p
  exact List.Perm.eq_of_pairwise (le := fun a b => sle a b = true) (fun a b _ _ x y => sle_anti x y) h1 h2 p
theorem srt_eq {xs ys : List Str} (h : xs.Perm ys) : srt xs = srt ys := pw_perm_eq (srt_pw xs) (srt_pw ys) ((srt_perm xs).trans (h.trans (srt_perm ys).symm))
theorem srt_id {xs : List Str} (h : xs.Pairwise (fun a b => sle a b = true)) : srt xs = xs := pw_perm_eq (srt_pw xs) h (srt_perm xs)
/-! shapes -/
theorem shp_str {s : Str} (h : okS s = true) : shp (.str s) = true := by
  unfold okS at h
  rw [Bool.and_eq_true] at h
  simp [SeqAt.shaped, PyData.canLay0, PyData.depth, h.2]
theorem can_strs : ∀ {xs : List Str}, (∀ x ∈ xs, okS x = true) → PyData.canLayAll0 (sL xs) = true
  | [], _ => by simp [PyData.canLayAll0]
  | x :: xs, h => by
    have h1 := h x List.mem_cons_self
    unfold okS at h1
    rw [Bool.and_eq_true] at h1
    simp [PyData.canLayAll0, PyData.canLay0, h1.2, can_strs fun y hy => h y (List.mem_cons_of_mem _ hy)]
theorem dep_strs : ∀ {xs : List Str}, PyData.depthAll (sL xs) = 0
  | [] => by simp [PyData.depthAll]
  | x :: xs => by simp [PyData.depthAll, PyData.depth, dep_strs (xs := xs)]
theorem shp_list {xs : List Str} (h : ∀ x ∈ xs, okS x = true) : shp (.list (sL xs)) = true := by
  simp [SeqAt.shaped, PyData.canLay0, PyData.depth, can_strs h, dep_strs]
theorem shp_tup {xs : List Str} (h : ∀ x ∈ xs, okS x = true) : shp (.tuple (sL xs)) = true := by
  simp [SeqAt.shaped, PyData.canLay0, PyData.depth, can_strs h, dep_strs]
theorem eqv_strs : ∀ {xs ys : List Str}, PyData.eqvAll (sL xs) (sL ys) = decide (xs = ys)
  | [], [] => by simp [PyData.eqvAll]
  | [], _ :: _ => by simp [PyData.eqvAll]
  | _ :: _, [] => by simp [PyData.eqvAll]
  | x :: xs, y :: ys => by
    simp only [strs_cons, PyData.eqvAll, PyData.eqv, eqv_strs (xs := xs) (ys := ys)]
    by_cases h1 : x = y <;> by_cases h2 : xs = ys <;> simp [h1, h2]
theorem eqB_str {a b : Str} (ha : okS a = true) (hb : okS b = true) : eqB (.str a) (.str b) = some (decide (a = b)) := by
  unfold eqB
  rw [if_pos ⟨shp_str ha, shp_str hb⟩]
  simp only [PyData.eqv]
  by_cases h : a = b <;> simp [h]
theorem neB_str {a b : Str} (ha : okS a = true) (hb : okS b = true) : neB (.str a) (.str b) = some (decide (a ≠ b)) := by
  unfold neB
  rw [if_pos ⟨shp_str ha, shp_str hb⟩]
  simp only [PyData.eqv]
  by_cases h : a = b <;> simp [h]
theorem eqB_list {a b : List Str} (ha : ∀ x ∈ a, okS x = true) (hb : ∀ x ∈ b, okS x = true) : eqB (.list (sL a)) (.list (sL b)) = some (decide (a = b)) := by
  unfold eqB
  rw [if_pos ⟨shp_list ha, shp_list hb⟩]
  simp only [PyData.eqv, eqv_strs]
theorem neB_list {a b : List Str} (ha : ∀ x ∈ a, okS x = true) (hb : ∀ x ∈ b, okS x = true) : neB (.list (sL a)) (.list (sL b)) = some (decide (a ≠ b)) := by
  unfold neB
  rw [if_pos ⟨shp_list ha, shp_list hb⟩]
  simp only [PyData.eqv, eqv_strs]
  by_cases h : a = b <;> simp [h]
theorem sortL_strs {xs : List Str} (h : ∀ x ∈ xs, okS x = true) (hl : xs.length ≤ lim) : sortL (sL xs) = some (.list (sL (srt xs))) := by
  unfold sortL
  rw [if_pos]
  · have e : (sL xs).mergeSort sortLe = sL (srt xs) := (List.map_mergeSort (r := sle) (s := sortLe) (f := PyData.str) (l := xs) fun a _ b _ => rfl).symm
    rw [e]
  · refine ⟨?_, by rw [strs_len]; exact hl⟩
    unfold sortOk
    rw [Bool.and_eq_true, Bool.or_eq_true]
    refine ⟨List.all_eq_true.mpr fun d hd => ?_, .inr (List.all_eq_true.mpr fun d hd => ?_)⟩
    · obtain ⟨x, hx, rfl⟩ := List.mem_map.mp hd
      rw [Bool.and_eq_true]
      refine ⟨shp_str (h x hx), List.all_eq_true.mpr fun e he => ?_⟩
      obtain ⟨y, hy, rfl⟩ := List.mem_map.mp he
      simp [PySem.W.alike]
    · obtain ⟨x, hx, rfl⟩ := List.mem_map.mp hd
      rfl
/-! ### keys: ints and texts -/
def okK : Key → Bool
  | .inl _ => true
  | .inr s => okS s
abbrev KL := List Key
def keys (k : KL) : List PyData := k.map keyD
def kt (k : KL) : PyData := .tuple (keys k)
@[simp] theorem keys_nil : keys [] = [] := rfl
@[simp] theorem keys_cons {x : Key} {xs : KL} : keys (x :: xs) = keyD x :: keys xs := rfl
@[simp] theorem keys_len {xs : KL} : (keys xs).length = xs.length := List.length_map _
theorem keys_app {xs ys : KL} : keys (xs ++ ys) = keys xs ++ keys ys := List.map_append
theorem eqv_K {a b : Key} : PyData.eqv (keyD a) (keyD b) = decide (a = b) := by
  cases a <;> cases b <;> simp [keyD, PyData.eqv]
  · rename_i i j; by_cases h : i = j <;> simp [h]
  · rename_i i j; by_cases h : i = j <;> simp [h]
theorem can_key {a : Key} (h : okK a = true) : PyData.canLay0 (keyD a) = true := by
  cases a with
  | inl i => simp [keyD, PyData.canLay0]
  | inr s =>
    unfold okK okS at h
    rw [Bool.and_eq_true] at h
    simp [keyD, PyData.canLay0, h.2]
theorem dep_key {a : Key} : PyData.depth (keyD a) = 0 := by cases a <;> simp [keyD, PyData.depth]
theorem shp_key {a : Key} (h : okK a = true) : shp (keyD a) = true := by simp [SeqAt.shaped, can_key h, dep_key]
theorem can_keys : ∀ {xs : KL}, (∀ x ∈ xs, okK x = true) → PyData.canLayAll0 (keys xs) = true
  | [], _ => by simp [PyData.canLayAll0]
  | x :: xs, h => by simp [PyData.canLayAll0, can_key (h x List.mem_cons_self), can_keys fun y hy => h y (List.mem_cons_of_mem _ hy)]
theorem dep_keys : ∀ {xs : KL}, PyData.depthAll (keys xs) = 0
  | [] => by simp [PyData.depthAll]
  | x :: xs => by simp [PyData.depthAll, dep_key, dep_keys (xs := xs)]
theorem shp_kt {xs : KL} (h : ∀ x ∈ xs, okK x = true) : shp (kt xs) = true := by
  simp [kt, SeqAt.shaped, PyData.canLay0, PyData.depth, can_keys h, dep_keys]
theorem eqv_keys : ∀ {xs ys : KL}, PyData.eqvAll (keys xs) (keys ys) = decide (xs = ys)
  | [], [] => by simp [PyData.eqvAll]
  | [], _ :: _ => by simp [PyData.eqvAll]
  | _ :: _, [] => by simp [PyData.eqvAll]
  | x :: xs, y :: ys => by
    simp only [keys_cons, PyData.eqvAll, eqv_K, eqv_keys (xs := xs) (ys := ys)]
    by_cases h1 : x = y <;> by_cases h2 : xs = ys <;> simp [h1, h2]
theorem eqv_kt {a b : KL} : PyData.eqv (kt a) (kt b) = decide (a = b) := by simp only [kt, PyData.eqv, eqv_keys]
theorem eqB_kt {a b : KL} (ha : ∀ x ∈ a, okK x = true) (hb : ∀ x ∈ b, okK x = true) : eqB (kt a) (kt b) = some (decide (a = b)) := by
  unfold eqB
  rw [if_pos ⟨shp_kt ha, shp_kt hb⟩, eqv_kt]
theorem kt_inj {a b : KL} (h : kt a = kt b) : a = b := by
  have := eqv_kt (a := a) (b := b)
  rw [h] at this
  have e := eqv_kt (a := b) (b := b)
  rw [e] at this
  simpa using this.symm
end DL

/-! P1: more of the plain calculus: displays, fields, methods, dicts. -/
namespace DL
open PySem PySem.Spec PyProof.Rows L2
theorem lim_val : lim = 1000000 := rfl
theorem ho_of {α : Type} {o : Option α} {k : α → Prop} {z : α} (e : o = some z) (h : k z) : Ho o k := ⟨z, e, h⟩
section
variable {α : Type} {c0 : Cell} {ρ : Env} {Q : PyData → Env → Prop} {QB : Bool → Env → Prop} {QL : List PyData → Env → Prop}
/-! ### instances -/
def oiOf (c : Nat) : Option Cell → Option (List (Str × PyData))
  | some (.oi _ c' fs) => if c' = c then some fs else none
  | _ => none
@[simp] theorem oiOf_oi {c : Nat} {b : Bool} {fs : List (Str × PyData)} : oiOf c (some (.oi b c fs)) = some fs := if_pos rfl
@[simp] theorem we_fld {c i : Nat} {f : Str} : Wr (eFld c i f (c0 :: ρ)) Q = Ho (oiOf c (c0 :: ρ)[i]?) fun fs => Ho (fs.lookup f) fun d => Q d (c0 :: ρ) := by
  simp only [eFld]
  cases e : (c0 :: ρ)[i]? with
  | none => simp [oiOf]
  | some z =>
    cases z <;> simp [oiOf]
    rename_i b c' fs
    by_cases h : c' = c
    · simp only [h, if_true]
      cases e2 : fs.lookup f <;> simp [e2]
    · simp [h]
@[simp] theorem w_meth {γ : Type} {QG : γ → Env → Prop} {c n i : Nat} {m : Str} {F : Env → R γ} {g : Env → R (List AV)} : Wr (eMeth c m n F i g (c0 :: ρ)) QG = Ho (oiOf c (c0 :: ρ)[i]?) fun fs => fs.lookup m = none ∧ Wr (g (c0 :: ρ)) fun avs ρ1 => (AV.own i :: avs).length = n ∧ Wr (runF F (AV.own i :: avs) ρ1) QG := by
  simp only [eMeth]
  cases e : (c0 :: ρ)[i]? with
  | none => simp [oiOf]
  | some z =>
    cases z <;> simp only [oiOf, ho_none, wr_bad]
    rename_i b c' fs
    by_cases h : c' = c
    · simp only [h, if_true, true_and, ho_some]
      by_cases h2 : fs.lookup m = none
      · rw [if_pos h2]
        simp only [h2, true_and, wr_bind]
        refine congrArg _ (funext fun avs => funext fun ρ1 => ?_)
        by_cases h3 : (AV.own i :: avs).length = n
        · rw [if_pos h3]; simp only [h3, true_and]
        · rw [if_neg h3]; simp only [h3, false_and, wr_bad]
      · rw [if_neg h2]; simp only [h2, false_and, wr_bad]
    · simp [h]
@[simp] theorem ws_fldD {N : Env → Prop} {T : α → Env → Prop} {c i : Nat} {f : Str} {fe : Env → R PyData} : Wf (sFldD c i f fe (c0 :: ρ)) N T = Wr (fe (c0 :: ρ)) fun d ρ1 => Ho (ρ1[i]?) fun z => match z with
    | .oi b c' fs => c' = c ∧ fs.length < 1000 ∧ N (ρ1.set i (.oi b c' (putFD f d fs)))
    | _ => False := by
  simp only [sFldD, wf_toF]
  refine congrArg _ (funext fun d => funext fun ρ1 => ?_)
  cases e : ρ1[i]? with
  | none => simp
  | some z =>
    cases z <;> simp
    rename_i b c' fs
    by_cases h : c' = c ∧ fs.length < 1000
    · rw [if_pos h]; simp [h.1, h.2]
    · rw [if_neg h]
      simp only [wf_bad, false_iff, not_and]
      intro h1 h2
      exact absurd ⟨h1, h2⟩ h
theorem w_make {c n : Nat} {F : Env → R PyData} {g : Env → R (List AV)} {QM : Nat × List (Str × PyData) → Env → Prop} : Wr (eMake c n F g (c0 :: ρ)) QM = Wr (g (c0 :: ρ)) fun avs ρ1 => avs.length + 1 = n ∧ keysOk (AV.ins c [] :: avs) = true ∧ Ho (cellsAV ρ1 avs) fun cs => Wr (F (.oi true c [] :: cs)) fun d ρ' => d = .none ∧ Ho (oiOf c ρ'[0]?) fun fs => (∃ k, ρ'[0]? = some (.oi true k fs)) ∧ QM (c, fs) (backAV ρ1 ρ' 0 (AV.ins c [] :: avs)) := by
  simp only [eMake, wr_bind]
  refine congrArg _ (funext fun avs => funext fun ρ1 => ?_)
  by_cases h : avs.length + 1 = n ∧ keysOk (AV.ins c [] :: avs) = true
  · rw [if_pos h]
    simp only [h.1, h.2, true_and]
    cases cellsAV ρ1 avs with
    | none => simp
    | some cs =>
      simp only [ho_some]
      cases e : F (.oi true c [] :: cs) with
      | bad => simp
      | er x ρ' => simp
      | ok d ρ' =>
        cases d with
        | none =>
          simp only [wr_ok, true_and]
          cases e2 : ρ'[0]? with
          | none => simp [oiOf]
          | some z =>
            cases z with
            | oi b c' fs =>
              cases b with
              | false => by_cases h3 : c' = c <;> simp [oiOf, h3]
              | true => by_cases h3 : c' = c <;> simp [oiOf, h3]
            | _ => simp [oiOf]
        | _ => simp
  · rw [if_neg h]
    simp only [wr_bad, eq_iff_iff, false_iff, not_and]
    intro a b
    exact absurd ⟨a, b⟩ h
@[simp] theorem ws_new {N : Env → Prop} {T : α → Env → Prop} {i : Nat} {f : Env → R (Nat × List (Str × PyData))} : Wf (sNew i f (c0 :: ρ)) N T = Wr (f (c0 :: ρ)) fun d ρ1 => N (ρ1.set i (.oi false d.1 d.2)) := by simp only [sNew, wf_toF, wf_nx]
@[simp] theorem back_ins {ρ ρ' : Env} {j c : Nat} {fs : List (Str × PyData)} {r : List AV} : backAV ρ ρ' j (.ins c fs :: r) = backAV ρ ρ' (j + 1) r := rfl
/-! ### small ones -/
@[simp] theorem we_index {fa fe : Env → R PyData} : Wr (eIndex fa fe (c0 :: ρ)) Q = Wr (fa (c0 :: ρ)) fun d ρ1 => match d with
    | .list ds => Wr (fe ρ1) fun y ρ2 => Ho (indexD ds y) fun j => Q (.int (j : Nat)) ρ2
    | _ => False := by
  simp only [eIndex, wr_bind]
  refine congrArg _ (funext fun d => funext fun ρ1 => ?_)
  cases d <;> simp only [wr_bad, wr_bind]
  refine congrArg _ (funext fun y => funext fun ρ2 => ?_)
  cases indexD _ y <;> simp
@[simp] theorem we_lz2 {f : Env → R (List PyData)} : Wr (eListZip2 f (c0 :: ρ)) Q = Wr (f (c0 :: ρ)) fun d ρ1 => Ho (zip2 d) fun ds => ds.length ≤ lim ∧ Q (.list ds) ρ1 := by
  simp only [eListZip2, wr_bind, wi_args]
  refine congrArg _ (funext fun d => funext fun ρ1 => ?_)
  cases zip2 d with
  | none => simp
  | some ds =>
    simp only [ho_some]
    by_cases h : ds.length ≤ lim
    · rw [if_pos h]; simp [h]
    · rw [if_neg h]; simp [h]
def dictOf : PyData → Option (List (PyData × PyData))
  | .dict kvs => some kvs
  | _ => none
@[simp] theorem dictOf_dict {kvs : List (PyData × PyData)} : dictOf (.dict kvs) = some kvs := rfl
@[simp] theorem wc_dNil {neg : Bool} {fa : Env → R PyData} : Wr (cDNil neg fa (c0 :: ρ)) QB = Wr (fa (c0 :: ρ)) fun d ρ1 => Ho (dictOf d) fun kvs => QB (if neg = true then !kvs.isEmpty else kvs.isEmpty) ρ1 := by
  simp only [cDNil, wr_bind]
  refine congrArg _ (funext fun d => funext fun ρ1 => ?_)
  cases d <;> simp [dictOf]
/-! targets -/
@[simp] theorem gT_tup {n : Nat} {gs : TgsF} {ds : List PyData} {ρ : Env} : gT n gs (.tuple ds) ρ = if ds.length = n then gs ds ρ else none := rfl
@[simp] theorem gs_nil {ρ : Env} : gsNil [] ρ = some ρ := rfl
@[simp] theorem gs_cons {i : Nat} {gs : TgsF} {d : PyData} {r : List PyData} {ρ : Env} : gsCons (gN i) gs (d :: r) ρ = gs r (ρ.set i (.fr d)) := rfl
@[simp] theorem gs_consT {n : Nat} {gs gs' : TgsF} {d : PyData} {r : List PyData} {ρ : Env} : gsCons (gT n gs') gs (d :: r) ρ = (gT n gs' d ρ).bind (gs r) := by
  show (match gT n gs' d ρ with | some ρ1 => gs r ρ1 | none => none) = _
  cases gT n gs' d ρ <;> rfl
/-! ### displays of typed lists -/
theorem wr_map {β : Type} {g : TgF} {tt : Env → R Bool} {te : Env → R PyData} {vs : List Nat} (enc : β → PyData) (F : β → PyData) {ρ : Env} (xs : List β) {Q : List PyData → Env → Prop} (hw : wipeE ρ vs = ρ)
    (h : ∀ x ∈ xs, Ho (g (enc x) ρ) fun ρ2 => Wr (tt ρ2) fun b ρ3 => b = true ∧ Wr (te ρ3) fun y ρ4 => y = F x ∧ wipeE ρ4 vs = ρ) (q : Q (xs.map F) ρ) : Wr (lcGo g tt te vs (xs.map enc) ρ) Q := by
  induction xs generalizing Q with
  | nil => exact q
  | cons x r ih =>
    obtain ⟨ρ2, e, h1⟩ := h x List.mem_cons_self
    obtain ⟨b, ρ3, e3, rfl, h1⟩ := h1.get
    obtain ⟨y, ρ4, e4, rfl, h5⟩ := h1.get
    simp only [List.map_cons]
    unfold lcGo
    rw [hw, e]
    simp only [e3, if_true, e4, wr_bind, wr_ok, h5]
    exact ih (fun x hx => h x (List.mem_cons_of_mem _ hx)) q
theorem wr_filter {β : Type} {g : TgF} {tt : Env → R Bool} {te : Env → R PyData} {vs : List Nat} (enc : β → PyData) (p : β → Bool) (F : β → PyData) {ρ : Env} (xs : List β) {Q : List PyData → Env → Prop} (hw : wipeE ρ vs = ρ)
    (h : ∀ x ∈ xs, Ho (g (enc x) ρ) fun ρ2 => Wr (tt ρ2) fun b ρ3 => b = p x ∧ wipeE ρ3 vs = ρ ∧ (b = true → Wr (te ρ3) fun y ρ4 => y = F x ∧ wipeE ρ4 vs = ρ)) (q : Q ((xs.filter p).map F) ρ) : Wr (lcGo g tt te vs (xs.map enc) ρ) Q := by
  induction xs generalizing Q with
  | nil => exact q
  | cons x r ih =>
    obtain ⟨ρ2, e, h1⟩ := h x List.mem_cons_self
    obtain ⟨b, ρ3, e3, rfl, h5, h1⟩ := h1.get
    simp only [List.map_cons]
    unfold lcGo
    rw [hw, e]
    simp only [e3]
    cases e6 : p x with
    | true =>
      obtain ⟨y, ρ4, e4, rfl, h7⟩ := (h1 e6).get
      rw [List.filter_cons_of_pos e6, List.map_cons] at q
      simp only [if_true, e4, wr_bind, wr_ok, h7]
      exact ih (fun x hx => h x (List.mem_cons_of_mem _ hx)) q
    | false =>
      rw [List.filter_cons_of_neg (by simp [e6])] at q
      simp only [Bool.false_eq_true, if_false, h5]
      exact ih (fun x hx => h x (List.mem_cons_of_mem _ hx)) q
/-- a loop that ends early or goes through: by a list of typed items -/
theorem wf_each {β : Type} {α : Type} {g : TgF} {F : Env → FlR α} {N : Env → Prop} {T : α → Env → Prop} (enc : β → PyData) (I : List β → Env → Prop) : ∀ (xs pre : List β) (ρ : Env), I pre ρ → (∀ pre x post ρ, pre.length < pre.length + (x :: post).length → I pre ρ → (∃ done, done ++ x :: post = xs) → Ho (g (enc x) ρ) fun ρ' => Wf (F ρ') (I (pre ++ [x])) T) → (∀ ρ, I (pre ++ xs) ρ → N ρ) → Wf (forGo g F (xs.map enc) ρ) N T
  | [], pre, ρ, h0, hs, hf => hf ρ (by rw [List.append_nil]; exact h0)
  | x :: r, pre, ρ, h0, hs, hf => by
    obtain ⟨ρ', e, h1⟩ := hs pre x r ρ (by simp) h0 ⟨[], rfl⟩
    show Wf (match g (enc x) ρ with | none => .bad | some ρ1 => match F ρ1 with | .nx ρ2 => forGo g F (r.map enc) ρ2 | .ct ρ2 => forGo g F (r.map enc) ρ2 | .bk ρ2 => .nx ρ2 | .rt x ρ2 => .rt x ρ2 | .er x ρ2 => .er x ρ2 | .bad => .bad) N T
    rw [e]
    show Wf (match F ρ' with | .nx ρ2 => forGo g F (r.map enc) ρ2 | .ct ρ2 => forGo g F (r.map enc) ρ2 | .bk ρ2 => .nx ρ2 | .rt x ρ2 => .rt x ρ2 | .er x ρ2 => .er x ρ2 | .bad => .bad) N T
    cases e2 : F ρ' with
    | nx ρ2 =>
      rw [e2] at h1
      refine wf_each enc I r (pre ++ [x]) ρ2 h1 (fun pre' x' post ρ hl hi ⟨done, hd⟩ => hs pre' x' post ρ hl hi ⟨x :: done, by rw [← hd]; rfl⟩) (fun ρ hi => hf ρ ?_)
      rw [List.append_assoc] at hi
      exact hi
    | rt x ρ2 => rw [e2] at h1; exact h1
    | er _ _ => rw [e2] at h1; exact h1.elim
    | bad => rw [e2] at h1; exact h1.elim
    | bk _ => rw [e2] at h1; exact h1.elim
    | ct _ => rw [e2] at h1; exact h1.elim
/-- a loop, from its start -/
theorem wf_loop {β : Type} {α : Type} {g : TgF} {F : Env → FlR α} {N : Env → Prop} {T : α → Env → Prop} (enc : β → PyData) (I : List β → Env → Prop) (xs : List β) (ρ : Env) (h0 : I [] ρ) (hs : ∀ pre x post ρ, pre ++ x :: post = xs → I pre ρ → Ho (g (enc x) ρ) fun ρ' => Wf (F ρ') (I (pre ++ [x])) T) (hf : ∀ ρ, I xs ρ → N ρ) : Wf (forGo g F (xs.map enc) ρ) N T := by
  have gen : ∀ (r pre : List β) (ρ : Env), pre ++ r = xs → I pre ρ → Wf (forGo g F (r.map enc) ρ) N T := by
    intro r
    induction r with
    | nil =>
      intro pre ρ e hi
      rw [List.append_nil] at e
      subst e
      exact hf ρ hi
    | cons x r ih =>
      intro pre ρ e hi
      obtain ⟨ρ', e1, h1⟩ := hs pre x r ρ e hi
      show Wf (match g (enc x) ρ with | none => .bad | some ρ1 => match F ρ1 with | .nx ρ2 => forGo g F (r.map enc) ρ2 | .ct ρ2 => forGo g F (r.map enc) ρ2 | .bk ρ2 => .nx ρ2 | .rt x ρ2 => .rt x ρ2 | .er x ρ2 => .er x ρ2 | .bad => .bad) N T
      rw [e1]
      show Wf (match F ρ' with | .nx ρ2 => forGo g F (r.map enc) ρ2 | .ct ρ2 => forGo g F (r.map enc) ρ2 | .bk ρ2 => .nx ρ2 | .rt x ρ2 => .rt x ρ2 | .er x ρ2 => .er x ρ2 | .bad => .bad) N T
      cases e2 : F ρ' with
      | nx ρ2 =>
        rw [e2] at h1
        exact ih (pre ++ [x]) ρ2 (by rw [List.append_assoc]; exact e) h1
      | rt x ρ2 => rw [e2] at h1; exact h1
      | er _ _ => rw [e2] at h1; exact h1.elim
      | bad => rw [e2] at h1; exact h1.elim
      | bk _ => rw [e2] at h1; exact h1.elim
      | ct _ => rw [e2] at h1; exact h1.elim
  exact gen xs [] ρ rfl h0
/-- a loop with one state: what stands ahead of the turns is passed through -/
theorem wf_pass {β : Type} {α : Type} {g : TgF} {F : Env → FlR α} {N : Env → Prop} {T : α → Env → Prop} (enc : β → PyData) (I : Env → Prop) : ∀ (xs : List β) (ρ : Env), I ρ → (∀ x ∈ xs, ∀ ρ, I ρ → Ho (g (enc x) ρ) fun ρ' => Wf (F ρ') I T) → (∀ ρ, I ρ → N ρ) → Wf (forGo g F (xs.map enc) ρ) N T := by
  intro xs ρ h0 hs hf
  refine wf_each enc (fun _ => I) xs [] ρ h0 (fun pre x post ρ _ hi ⟨done, hd⟩ => hs x (by rw [← hd]; simp) ρ hi) (fun ρ hi => hf ρ hi)
end
/-! ### typed lists of tuples -/
theorem enumD_eq (xs : List PyData) (n : Nat) : enumD n xs = (xs.zipIdx n).map fun p => .tuple [.int (p.2 : Nat), p.1] := by
  induction xs generalizing n with
  | nil => rfl
  | cons x r ih => simp [enumD, ih]
theorem enumD_map {β : Type} (enc : β → PyData) (xs : List β) : enumD 0 (xs.map enc) = (xs.zipIdx).map fun p => .tuple [.int (p.2 : Nat), enc p.1] := by
  rw [enumD_eq, List.zipIdx_map, List.map_map]
  rfl
theorem zip2T_map {β γ : Type} (e1 : β → PyData) (e2 : γ → PyData) : ∀ (xs : List β) (ys : List γ), zip2T (xs.map e1) (ys.map e2) = (xs.zip ys).map fun p => .tuple [e1 p.1, e2 p.2]
  | [], _ => by simp [zip2T]
  | _ :: _, [] => by simp [zip2T]
  | x :: xs, y :: ys => by simp [zip2T, zip2T_map e1 e2 xs ys]
theorem zip3T_map {β γ δ : Type} (e1 : β → PyData) (e2 : γ → PyData) (e3 : δ → PyData) : ∀ (xs : List β) (ys : List γ) (zs : List δ), zip3T (xs.map e1) (ys.map e2) (zs.map e3) = (xs.zip (ys.zip zs)).map fun p => .tuple [e1 p.1, e2 p.2.1, e3 p.2.2]
  | [], _, _ => by simp [zip3T]
  | _ :: _, [], _ => by simp [zip3T]
  | _ :: _, _ :: _, [] => by simp [zip3T]
  | x :: xs, y :: ys, z :: zs => by simp [zip3T, zip3T_map e1 e2 e3 xs ys zs]
@[simp] theorem seqD_list {ds : List PyData} : seqD (.list ds) = some ds := rfl
@[simp] theorem seqD_tup {ds : List PyData} : seqD (.tuple ds) = some ds := rfl
@[simp] theorem enum1_list {ds : List PyData} : enum1 [.list ds] = some (enumD 0 ds) := rfl
theorem zip2_def {a b : PyData} {x y : List PyData} (h1 : seqD a = some x) (h2 : seqD b = some y) : zip2 [a, b] = some (zip2T x y) := by simp [zip2, h1, h2]
theorem zip3_def {a b c : PyData} {x y z : List PyData} (h1 : seqD a = some x) (h2 : seqD b = some y) (h3 : seqD c = some z) : zip3 [a, b, c] = some (zip3T x y z) := by simp [zip3, h1, h2, h3]
theorem cut_lo {α : Type} (xs : List α) (k : Nat) (h : k ≤ xs.length) : cutD xs none (some (k : Int)) = xs.take k := by
  unfold cutD
  rw [HT.sIx_none, HT.sIx_nat, Nat.min_eq_left h]
  simp
theorem cut_hi {α : Type} (xs : List α) (k : Nat) (h : k ≤ xs.length) : cutD xs (some (k : Int)) none = xs.drop k := by
  unfold cutD
  rw [HT.sIx_none, HT.sIx_nat, Nat.min_eq_left h]
  rw [List.take_of_length_le (by simp)]
end DL

/-! Q0: what the law's own helpers give. -/
namespace DL
open PySem PySem.Spec PyProof.Rows L2
theorem wr_fnN {m : Nat} {S : Env → FlR PyData} {cs : Env} {Q : PyData → Env → Prop} (h : Wf (S (cs ++ List.replicate m .no)) (fun ρ => Q .none ρ) Q) : Wr (fnN m S cs) Q := by
  unfold fnN
  cases e : S (cs ++ List.replicate m .no) with
  | nx ρ => rw [e] at h; exact h
  | rt d ρ => rw [e] at h; exact h
  | er _ _ => rw [e] at h; exact h.elim
  | bad => rw [e] at h; exact h.elim
  | bk _ => rw [e] at h; exact h.elim
  | ct _ => rw [e] at h; exact h.elim
theorem wr_fnF {α : Type} {m : Nat} {S : Env → FlR α} {cs : Env} {Q : α → Env → Prop} (h : Wf (S (cs ++ List.replicate m .no)) (fun _ => False) Q) : Wr (fnF m S cs) Q := by
  unfold fnF
  cases e : S (cs ++ List.replicate m .no) with
  | nx ρ => rw [e] at h; exact h.elim
  | rt d ρ => rw [e] at h; exact h
  | er _ _ => rw [e] at h; exact h.elim
  | bad => rw [e] at h; exact h.elim
  | bk _ => rw [e] at h; exact h.elim
  | ct _ => rw [e] at h; exact h.elim
@[simp] theorem addD_int {i j : Int} : addD (.int i) (.int j) = some (.int (i + j)) := rfl
@[simp] theorem subD_int {i j : Int} : subD (.int i) (.int j) = some (.int (i - j)) := rfl
@[simp] theorem negD_int {i : Int} : negD (.int i) = some (.int (-i)) := rfl
theorem divD_int {i j : Int} (h : 0 < j) (h2 : j < 1073741824) : divD (.int i) (.int j) = some (.int (i / j)) := if_pos ⟨h, h2⟩
theorem modD_int {i j : Int} (h : 0 < j) : modD (.int i) (.int j) = some (.int (i % j)) := if_pos h
theorem mulD_int {i j : Int} (h : CMul i j) : mulD (.int i) (.int j) = some (.int (i * j)) := if_pos h
@[simp] theorem cmpI_int {p : Int → Int → Bool} {i j : Int} : cmpI p (.int i) (.int j) = some (p i j) := rfl
@[simp] theorem gtI_int {i j : Int} : gtI (.int i) (.int j) = some (decide (j < i)) := rfl
@[simp] theorem key_val {d : PyData} : AV.key (.val d) = none := rfl
@[simp] theorem key_own {i : Nat} : AV.key (.own i) = some i := rfl
@[simp] theorem key_new {d : List PyData} : AV.key (.new d) = some lim := rfl
@[simp] theorem keysOk_def {avs : List AV} : keysOk avs = decide ((avs.filterMap AV.key).Nodup) := rfl
@[simp] theorem fm_val {d : PyData} {r : List AV} : (AV.val d :: r).filterMap AV.key = r.filterMap AV.key := rfl
@[simp] theorem fm_own {i : Nat} {r : List AV} : (AV.own i :: r).filterMap AV.key = i :: r.filterMap AV.key := rfl
@[simp] theorem fm_new {d : List PyData} {r : List AV} : (AV.new d :: r).filterMap AV.key = lim :: r.filterMap AV.key := rfl
@[simp] theorem cells_nil {ρ : Env} : cellsAV ρ [] = some [] := rfl
@[simp] theorem cells_cons {ρ : Env} {a : AV} {r : List AV} : cellsAV ρ (a :: r) = (cellAV ρ a).bind fun c => (cellsAV ρ r).map (c :: ·) := by
  rw [cellsAV]
  cases cellAV ρ a <;> cases cellsAV ρ r <;> rfl
@[simp] theorem cell_val {ρ : Env} {d : PyData} : cellAV ρ (.val d) = some (.fr d) := rfl
@[simp] theorem cell_own {ρ : Env} {i : Nat} : cellAV ρ (.own i) = (ρ[i]?).bind pinC := rfl
@[simp] theorem cell_new {ρ : Env} {d : List PyData} : cellAV ρ (.new d) = some (.ol true d) := rfl
@[simp] theorem pinC_ol {b : Bool} {ds : List PyData} : pinC (.ol b ds) = some (.ol true ds) := rfl
@[simp] theorem pinC_oi {b : Bool} {c : Nat} {ds : List (Str × PyData)} : pinC (.oi b c ds) = some (.oi true c ds) := rfl
@[simp] theorem back_nil {ρ ρ' : Env} {j : Nat} : backAV ρ ρ' j [] = ρ := rfl
@[simp] theorem back_val {ρ ρ' : Env} {j : Nat} {d : PyData} {r : List AV} : backAV ρ ρ' j (.val d :: r) = backAV ρ ρ' (j + 1) r := rfl
@[simp] theorem back_new {ρ ρ' : Env} {j : Nat} {d : List PyData} {r : List AV} : backAV ρ ρ' j (.new d :: r) = backAV ρ ρ' (j + 1) r := rfl
@[simp] theorem back_own {ρ ρ' : Env} {i j : Nat} {r : List AV} : backAV ρ ρ' j (.own i :: r) = (backAV ρ ρ' (j + 1) r).set i (unpin ((ρ[i]?).getD .no) ((ρ'[j]?).getD .no)) := rfl
@[simp] theorem unpin_ol {p : Bool} {a b : List PyData} : unpin (.ol p a) (.ol true b) = .ol p b := rfl
@[simp] theorem unpin_oi {p : Bool} {c : Nat} {a b : List (Str × PyData)} : unpin (.oi p c a) (.oi true c b) = .oi p c b := if_pos rfl
@[simp] theorem len1_list {ds : List PyData} : lenD [.list ds] = some (.int ds.length) := rfl
@[simp] theorem len1_tuple {ds : List PyData} : lenD [.tuple ds] = some (.int ds.length) := rfl
@[simp] theorem tuple_list {ds : List PyData} : tupleD [.list ds] = some (.tuple ds) := rfl
@[simp] theorem list_tuple {ds : List PyData} : listD [.tuple ds] = some (.list ds) := rfl
@[simp] theorem iter_list {ds : List PyData} : iterD (.list ds) = some ds := rfl
@[simp] theorem iter_tuple {ds : List PyData} : iterD (.tuple ds) = some ds := rfl
@[simp] theorem gN_def {i : Nat} {d : PyData} {ρ : Env} : gN i d ρ = some (ρ.set i (.fr d)) := rfl
@[simp] theorem tYes_def {ρ : Env} : tYesD ρ = .ok true ρ := rfl
@[simp] theorem wipe_nil {ρ : Env} : wipeE ρ [] = ρ := rfl
@[simp] theorem wipe_cons {ρ : Env} {v : Nat} {vs : List Nat} : wipeE ρ (v :: vs) = (wipeE ρ vs).set v .no := rfl
@[simp] theorem eqB_int {i j : Int} : eqB (.int i) (.int j) = some (i == j) := rfl
@[simp] theorem neB_int {i j : Int} : neB (.int i) (.int j) = some (!(i == j)) := rfl
def Bag (b : List PyData) : Prop := ∃ x y z : Int, b = [.int x, .int y, .int z] ∧ 0 ≤ y ∧ y < 2147483648
theorem cmul_l {i j : Int} (h0 : 0 ≤ i) (h : i < 2147483648) : CMul i j := .inl ⟨by omega, by omega⟩
theorem draw_ok {p : Bool} {b : List PyData} {m : Int} {Q : PyData → Env → Prop} (hb : Bag b) (h0 : 0 < m) (h1 : m < 1000000)
    (h : ∀ r b' c, 0 ≤ r → r < m → Bag b' → Q (.int r) [.ol p b', .fr (.int m), c]) : Wr (f__law_draw [.ol p b, .fr (.int m)]) Q := by
  obtain ⟨x, y, z, rfl, hy0, hy1⟩ := hb
  refine wr_fnN ?_
  simp [b__law_draw, atI, ixN]
  by_cases hx : 0 < x
  · rw [if_pos hx]
    rw [modD_int h0, divD_int h0 (by omega)]
    simp
    exact h _ _ _ (Int.emod_nonneg _ (by omega)) (Int.emod_lt_of_pos _ h0) ⟨_, _, _, rfl, hy0, hy1⟩
  · rw [if_neg hx]
    rw [mulD_int (cmul_l hy0 hy1)]
    simp
    rw [mulD_int (cmul_l (by decide) (by decide))]
    simp
    rw [modD_int (by decide)]
    simp
    rw [divD_int (by decide) (by decide)]
    simp
    rw [modD_int h0]
    simp
    refine h _ _ _ (Int.emod_nonneg _ (by omega)) (Int.emod_lt_of_pos _ h0) ⟨_, _, _, rfl, Int.emod_nonneg _ (by decide), ?_⟩
    have := Int.emod_lt_of_pos (y * y + 2654435 * (z + 1) + 12345) (show (0:Int) < 2147483629 by decide)
    omega
end DL

/-! Q1: ladders. -/
namespace DL
open PySem PySem.Spec PyProof.Rows L2
theorem wr_lcGo_map {g : TgF} {tt : Env → R Bool} {te : Env → R PyData} {vs : List Nat} {F : PyData → PyData} {ρ : Env} (hw : wipeE ρ vs = ρ) : ∀ (ds : List PyData) {Q : List PyData → Env → Prop},
    (∀ d ∈ ds, Ho (g d ρ) fun ρ2 => Wr (tt ρ2) fun b ρ3 => b = true ∧ Wr (te ρ3) fun x ρ4 => x = F d ∧ wipeE ρ4 vs = ρ) → Q (ds.map F) ρ → Wr (lcGo g tt te vs ds ρ) Q := by
  intro ds Q h q
  refine wr_lcGo ds (fun n acc ρ' => ρ' = ρ ∧ acc = (ds.take n).map F) 0 [] ρ ⟨rfl, rfl⟩ (fun i d acc ρ' hd ⟨e1, e2⟩ => ?_) (fun xs ρ' ⟨e1, e2⟩ => ?_)
  · subst e1
    rw [hw]
    have hm := List.mem_of_getElem? hd
    obtain ⟨ρ2, e3, h1⟩ := h d hm
    refine ⟨ρ2, e3, h1.mono fun b ρ3 ⟨eb, h2⟩ => ?_⟩
    rw [if_pos eb]
    refine h2.mono fun x ρ4 ⟨ex, e4⟩ => ⟨e4, ?_⟩
    rw [Nat.zero_add] at e2 ⊢
    rw [e2, ex, List.take_add_one, hd]
    simp
  · subst e1
    simp at e2
    rw [e2]
    exact q
def NumS : Nat → List (List PyData × Int)
  | 0 => [([], 1)]
  | n + 1 => (NumS n).flatMap fun p => [2, 3, 4].map fun m => (p.1 ++ [.int (p.2 * m)], p.2 * m)
def letters : List PyData := [.str "x", .str "y", .str "z", .str "w"]
def nm (k j : Nat) : PyData := match (ixD (.str "abc") (.int k)).bind fun a => (ixD (.str "xyzw") (.int j)).bind fun b => addD a b with
  | some d => d
  | none => .none
def TreeS : Nat → List (List PyData × List PyData)
  | 0 => [([], [.str "*"])]
  | n + 1 => (TreeS n).flatMap fun p => [0, 1].map fun r =>
    let names := (List.range (p.2.length + r)).map fun j => nm n j
    (p.1 ++ (List.range names.length).map (fun j => .tuple [(names[j]?).getD .none, (p.2[j % p.2.length]?).getD .none]), names)
def numLads : List PyData := ([0, 1, 2, 3].flatMap NumS).map fun p => .tuple [.str "num", .tuple p.1]
def treeLads : List PyData := ([1, 2, 3].flatMap TreeS).flatMap fun p => (List.range p.1.length).map fun r =>
  .tuple [.str "tree", .tuple (cutD p.1 (some (r : Nat)) none ++ cutD p.1 none (some ((p.1.length : Int) - ((cutD p.1 (some (r : Nat)) none).length : Int))))]
def Lads : List PyData := numLads ++ treeLads
theorem range1_int {j : Int} (h : j < 1000000) (h2 : -1000000 < j) : range1 [.int j] = some (rangeD 0 j.toNat) := if_pos (smallI_iff.mpr ⟨h, h2⟩)
theorem rangeD_get {n i : Nat} {d : PyData} (h : (rangeD 0 n)[i]? = some d) : d = .int i ∧ i < n := by
  unfold rangeD at h
  rw [List.getElem?_map] at h
  cases e : (List.range n)[i]? with
  | none => rw [e] at h; cases h
  | some k =>
    rw [e] at h
    have hl := (List.getElem?_eq_some_iff.mp e).1
    rw [List.length_range] at hl
    rw [List.getElem?_range hl] at e
    cases e
    cases h
    simp [hl]
@[simp] theorem rangeD_len {n : Nat} {k : Int} : (rangeD k n).length = n := by simp [rangeD]
theorem numS_step {n : Nat} {s : List PyData} {t m : Int} (h : (s, t) ∈ NumS n) (h0 : 0 ≤ m) (h1 : m < 3) : (s ++ [.int (t * (2 + m))], t * (2 + m)) ∈ NumS (n + 1) := by
  unfold NumS
  refine List.mem_flatMap.mpr ⟨_, h, List.mem_map.mpr ⟨2 + m, ?_, rfl⟩⟩
  have : m = 0 ∨ m = 1 ∨ m = 2 := by omega
  rcases this with rfl | rfl | rfl <;> decide
theorem num_mem {n : Nat} {s : List PyData} {t : Int} (h : (s, t) ∈ NumS n) (hn : n ≤ 3) : PyData.tuple [.str "num", .tuple s] ∈ Lads := by
  refine List.mem_append.mpr (.inl (List.mem_map.mpr ⟨(s, t), List.mem_flatMap.mpr ⟨n, ?_, h⟩, rfl⟩))
  have : n = 0 ∨ n = 1 ∨ n = 2 ∨ n = 3 := by omega
  rcases this with rfl | rfl | rfl | rfl <;> decide
def NumInv (p : Bool) (n : Nat) (ρ : Env) : Prop := ∃ b s t c, ρ = [.ol p b, .ol false s, .fr (.int t), c, .no, .no, .no, .no, .no] ∧ Bag b ∧ s.length ≤ n ∧ (s, t) ∈ NumS n
def tree_body : Env → FlR PyData :=
    (sSeq (sSet 6 (eFl (eLc (iArgs range1 (aCons (eOp addD (eCall lenD (aCons (eVar 5) aNil)) (eCallF 2 (f__law_draw) (avOwn 0 (avCons (eC (.int 2)) avNil)))) aNil)) (gN 8) tYesD (eOp addD (eOp ixD (eC (.str "abc")) (eVar 3)) (eOp ixD (eC (.str "xyzw")) (eVar 8))) [8])))
    (sSeq (sSet 4 (eOp addD (eVar 4) (eFl (eLc (iArgs range1 (aCons (eCall lenD (aCons (eVar 6) aNil)) aNil)) (gN 8) tYesD (eTup (aCons (eOp ixD (eVar 6) (eVar 8)) (aCons (eOp ixD (eVar 5) (eOp modD (eVar 8) (eCall lenD (aCons (eVar 5) aNil)))) aNil))) [8]))))
    (sSet 5 (eVar 6))))
/-- how wide a level is -/
theorem treeS_len : ∀ k, k ≤ 3 → (TreeS k).all (fun p => decide (0 < p.2.length ∧ p.2.length ≤ k + 1 ∧ p.1.length ≤ 9 ∧ (k = 0 ∨ 0 < p.1.length))) = true := by
  intro k h
  have : k = 0 ∨ k = 1 ∨ k = 2 ∨ k = 3 := by omega
  rcases this with rfl | rfl | rfl | rfl <;> decide +kernel
@[simp] theorem rangeD_map {n : Nat} : rangeD 0 n = (List.range n).map fun i => PyData.int (i : Nat) := by
  unfold rangeD
  refine List.map_congr_left fun i _ => ?_
  simp
theorem ix_abc {k : Nat} (h : k < 3) : ∃ x, ixD (.str "abc") (.int k) = some (.str x) ∧ x.length = 1 := by
  have : k = 0 ∨ k = 1 ∨ k = 2 := by omega
  rcases this with rfl | rfl | rfl <;> exact ⟨_, rfl, rfl⟩
theorem ix_xyzw {k : Nat} (h : k < 4) : ∃ x, ixD (.str "xyzw") (.int k) = some (.str x) ∧ x.length = 1 := by
  have : k = 0 ∨ k = 1 ∨ k = 2 ∨ k = 3 := by omega
  rcases this with rfl | rfl | rfl | rfl <;> exact ⟨_, rfl, rfl⟩
theorem nm_eq {k j : Nat} (h : k < 3) (h2 : j < 4) : Ho (ixD (.str "abc") (.int k)) fun a => Ho (ixD (.str "xyzw") (.int j)) fun b => addD a b = some (nm k j) := by
  obtain ⟨x, e1, l1⟩ := ix_abc h
  obtain ⟨y, e2, l2⟩ := ix_xyzw h2
  refine ⟨_, e1, _, e2, ?_⟩
  unfold nm
  rw [e1, e2]
  show addD (.str x) (.str y) = some (match addD (.str x) (.str y) with | some d => d | none => .none)
  rw [show addD (.str x) (.str y) = some (.str (x ++ y)) from if_pos (by rw [l1, l2]; decide)]
theorem atI_nat {α : Type} {xs : List α} {n : Nat} (h : n < xs.length) : atI xs (n : Int) = xs[n]? := by
  unfold atI ixN
  rw [if_pos (by omega), if_pos (by omega)]
  simp
def natOf : PyData → Nat
  | .int j => j.toNat
  | _ => 0
@[simp] theorem natOf_int {j : Nat} : natOf (.int (j : Int)) = j := rfl
theorem tree_turn {p : Bool} {b : List PyData} {k : Nat} {rows above : List PyData} {c6 c8 : Cell} {T : PyData → Env → Prop} {N : Env → Prop} (hb : Bag b) (hk : k < 3) (hS : (rows, above) ∈ TreeS k)
    (h : ∀ b' r n c6 c8, Bag b' → (r, n) ∈ TreeS (k + 1) → N [.ol p b', .no, .no, .fr (.int k), .fr (.list r), .fr (.list n), c6, .no, c8]) :
    Wf (tree_body [.ol p b, .no, .no, .fr (.int k), .fr (.list rows), .fr (.list above), c6, .no, c8]) N T := by
  have hl := treeS_len k (by omega)
  rw [List.all_eq_true] at hl
  have hl := of_decide_eq_true (hl _ hS)
  simp only at hl
  obtain ⟨l1, l2, l3, -⟩ := hl
  simp [tree_body]
  refine draw_ok (m := 2) hb (by decide) (by decide) fun r b' c h0 h1 hb' => ?_
  obtain ⟨r, rfl⟩ := Int.eq_ofNat_of_zero_le h0
  simp
  rw [range1_int (by omega) (by omega)]
  simp
  refine ⟨by rw [lim_val]; omega, ?_⟩
  have e1 : ((above.length : Int) + (r : Int)).toNat = above.length + r := by omega
  rw [e1]
  refine wr_lcGo_map (F := fun d => nm k (natOf d)) (by simp [wipeE]) _ ?_ ?_
  · intro d hd
    obtain ⟨j, hj, rfl⟩ := List.mem_map.mp hd
    rw [List.mem_range] at hj
    simp [wipeE, gN, tYesD]
    obtain ⟨x, ex, y, ey, e⟩ := nm_eq hk (show j < 4 by omega)
    exact ho_of ex (ho_of ey (ho_of e rfl))
  · simp [backE]
    rw [range1_int (by omega) (by omega)]
    simp
    refine ⟨by rw [lim_val]; omega, ?_⟩
    refine wr_lcGo_map (F := fun d => .tuple [nm k (natOf d), (above[natOf d % above.length]?).getD .none]) (by simp) _ ?_ ?_
    · intro d hd
      obtain ⟨j, hj, rfl⟩ := List.mem_map.mp hd
      rw [List.mem_range] at hj
      simp
      have hx : j % above.length < above.length := Nat.mod_lt _ l1
      refine ho_of (z := nm k j) ?_ (ho_of (modD_int (by omega)) (ho_of (z := above[j % above.length]) ?_ ?_))
      · show atI _ _ = _
        rw [atI_nat (by simp; omega)]
        simp
        exact ⟨j, by rw [List.getElem?_range (by omega)], rfl⟩
      · show atI _ _ = _
        rw [show (j : Int) % (above.length : Int) = ((j % above.length : Nat) : Int) from by simp]
        rw [atI_nat hx, List.getElem?_eq_getElem hx]
      · simp [List.getElem?_eq_getElem hx]
    · simp
      refine ho_of (if_pos (by rw [List.length_map, List.length_range, lim_val]; omega)) ?_
      refine h _ _ _ _ _ hb' ?_
      unfold TreeS
      refine List.mem_flatMap.mpr ⟨_, hS, List.mem_map.mpr ⟨r, ?_, ?_⟩⟩
      · have : r = 0 ∨ r = 1 := by omega
        rcases this with rfl | rfl <;> decide
      · simp
        rw [e1]
        refine List.map_congr_left fun j hj => ?_
        rw [List.mem_range] at hj
        simp [List.getElem?_range hj]
theorem tree_mem {n : Nat} {rows above : List PyData} {r : Nat} (h : (rows, above) ∈ TreeS n) (h0 : 1 ≤ n) (hn : n ≤ 3) (hr : r < rows.length) :
    PyData.tuple [.str "tree", .tuple (cutD rows (some (r : Nat)) none ++ cutD rows none (some ((rows.length : Int) - ((cutD rows (some (r : Nat)) none).length : Int))))] ∈ Lads := by
  refine List.mem_append.mpr (.inr (List.mem_flatMap.mpr ⟨(rows, above), List.mem_flatMap.mpr ⟨n, ?_, h⟩, List.mem_map.mpr ⟨r, List.mem_range.mpr hr, rfl⟩⟩))
  have : n = 1 ∨ n = 2 ∨ n = 3 := by omega
  rcases this with rfl | rfl | rfl <;> decide
def TreeInv (p : Bool) (n : Nat) (ρ : Env) : Prop := ∃ b r a c3 c6 c8, ρ = [.ol p b, .no, .no, c3, .fr (.list r), .fr (.list a), c6, .no, c8] ∧ Bag b ∧ (r, a) ∈ TreeS n
theorem ladder_ok {p : Bool} {b : List PyData} {Q : PyData → Env → Prop} (hb : Bag b)
    (h : ∀ L b' c1 c2 c3 c4 c5 c6 c7 c8, L ∈ Lads → Bag b' → Q L [.ol p b', c1, c2, c3, c4, c5, c6, c7, c8]) : Wr (f__law_ladder [.ol p b]) Q := by
  refine wr_fnN ?_
  unfold b__law_ladder
  rw [show [Cell.ol p b] ++ List.replicate 8 .no = [.ol p b, .no, .no, .no, .no, .no, .no, .no, .no] from rfl, ws_seq, ws_if]
  simp only [wc_cmp, w_callF, wa_own, wa_cons, we_c, wa_nil]
  simp
  refine draw_ok (m := 2) hb (by decide) (by decide) fun r b1 c h0 h1 hb1 => ?_
  simp
  by_cases hr : r = 0
  · rw [if_pos hr]
    refine draw_ok (m := 4) hb1 (by decide) (by decide) fun r3 b' c h0 h1 hb' => ?_
    simp
    rw [range1_int (by omega) (by omega)]
    simp
    refine wf_for _ (NumInv p) 0 _ ⟨_, _, _, _, rfl, hb', by simp, by simp [NumS]⟩ ?_ ?_
    · rintro i d ρ hd ⟨b1, s, t, c1, rfl, hbx, hl, hs⟩
      rw [← rangeD_map] at hd
      obtain ⟨rfl, hi⟩ := rangeD_get hd
      simp [gN]
      refine draw_ok (m := 3) hbx (by decide) (by decide) fun r2 b2 c2 h2 h3 hb2 => ?_
      simp
      rw [mulD_int (.inr ⟨by omega, by omega⟩)]
      simp
      refine ho_of (if_pos (by rw [lim_val]; omega)) ?_
      exact ⟨_, _, _, _, rfl, hb2, by simp; omega, by rw [Nat.zero_add] at hs; exact numS_step hs h2 h3⟩
    · rintro ρ ⟨b1, s, t, c1, rfl, hbx, hl, hs⟩
      simp
      rw [List.length_map, List.length_range, Nat.zero_add] at hs
      exact h _ _ _ _ _ _ _ _ _ _ (num_mem hs (by omega)) hbx
  rw [if_neg hr]
  refine draw_ok (m := 3) hb1 (by decide) (by decide) fun r2 b2 c2 h2 h3 hb2 => ?_
  simp
  rw [range1_int (by omega) (by omega)]
  simp
  refine wf_for _ (TreeInv p) 0 _ ⟨_, _, _, _, _, _, rfl, hb2, by simp [TreeS]⟩ ?_ ?_
  · rintro i d ρ hd ⟨b3, rows, above, c3, c6, c8, rfl, hb3, hs⟩
    rw [← rangeD_map] at hd
    obtain ⟨rfl, hi⟩ := rangeD_get hd
    rw [Nat.zero_add] at hs
    refine ho_of rfl ?_
    exact tree_turn hb3 (by omega) hs fun b4 r4 n4 c6 c8 hb4 h4 => ⟨_, _, _, _, _, _, rfl, hb4, by rw [Nat.zero_add]; exact h4⟩
  · rintro ρ ⟨b3, rows, above, c3, c6, c8, rfl, hb3, hs⟩
    rw [List.length_map, List.length_range, Nat.zero_add] at hs
    have hl := treeS_len _ (show (1 + r2).toNat ≤ 3 by omega)
    rw [List.all_eq_true] at hl
    have hl := of_decide_eq_true (hl _ hs)
    simp only at hl
    obtain ⟨-, -, l3, l4⟩ := hl
    have l4 : 0 < rows.length := by omega
    simp
    refine draw_ok (m := rows.length) hb3 (by omega) (by omega) fun r5 b5 c5 h5 h6 hb5 => ?_
    obtain ⟨r5, rfl⟩ := Int.eq_ofNat_of_zero_le h5
    simp [slD]
    refine ho_of (if_pos ?_) ?_
    · rw [lim_val]
      have e1 : (cutD rows (some ↑r5) none).length ≤ rows.length := by
        unfold cutD
        rw [List.length_take, List.length_drop]
        omega
      have e2 : (cutD rows none (some (↑rows.length - ↑(cutD rows (some ↑r5) none).length))).length ≤ rows.length := by
        unfold cutD
        rw [List.length_take, List.length_drop]
        omega
      omega
    · simp
      exact h _ _ _ _ _ _ _ _ _ _ (tree_mem hs (by omega) (by omega) (by omega)) hb5
end DL

/-! Q2: what is read off a ladder; finitely many ladders. -/
namespace DL
open PySem PySem.Spec PyProof.Rows L2
def resD (r : R PyData) : PyData := match r with
  | .ok d _ => d
  | _ => .none
def isOk (r : R PyData) : Bool := match r with
  | .ok _ _ => true
  | _ => false
def lst : PyData → List PyData
  | .list ds => ds
  | _ => []
def intV : PyData → Int
  | .int n => n
  | _ => 0
/-- an answer that is a key -/
def isKey (d : PyData) : Bool := match keyOf d with
  | some k => okK k
  | none => false
def toKey (d : PyData) : Key := (keyOf d).getD (.inl 0)
theorem toKey_of {d : PyData} (h : isKey d = true) : d = keyD (toKey d) ∧ okK (toKey d) = true := by
  cases d <;> simp [isKey, keyOf, toKey, keyD] at h ⊢
  · rfl
  · exact h
theorem toKey_keyD {k : Key} : toKey (keyD k) = k := by cases k <;> rfl
def valsK (L : PyData) : List Key := (lst (resD (f__law_values [.fr L]))).map toKey
def topN (L : PyData) : Nat := (intV (resD (f__law_top [.fr L]))).toNat
def coK (L : PyData) (v : Key) (k : Nat) : Key := toKey (resD (f_coarse [.fr L, .fr (keyD v), .fr (.int k)]))
/-- more numbers -/
def valsX (L : PyData) : List Key := valsK L ++ (match L with
  | .tuple (.str x :: _) => if x = "num" then [.inl 6, .inl 10, .inl 20, .inl 21] else []
  | _ => [])
def LadsX : List PyData := Lads ++ [.tuple [.str "num", .tuple [.int 10]]]
theorem lads_x {L : PyData} (h : L ∈ Lads) : L ∈ LadsX := List.mem_append_left _ h
theorem vals_x {L : PyData} {v : Key} (h : v ∈ valsK L) : v ∈ valsX L := List.mem_append_left _ h
def okVals (L : PyData) : Bool := match f__law_values [.fr L] with
  | .ok (.list vs) _ => !vs.isEmpty && vs.all isKey && decide (vs.length < 1000)
  | _ => false
def okTop (L : PyData) : Bool := match f__law_top [.fr L] with
  | .ok (.int n) _ => decide (0 < n ∧ n < 1000)
  | _ => false
def okLevs (L : PyData) : Bool := match f_levels_of [.fr L] with
  | .ok (.int n) _ => decide (n = topN L + 1)
  | _ => false
def okCo (L : PyData) (v : Key) (k : Nat) : Bool := match f_coarse [.fr L, .fr (keyD v), .fr (.int k)] with
  | .ok d _ => isKey d
  | _ => false
def okLCo (L : PyData) (v : Key) (k : Nat) : Bool := match f__law_coarse [.fr L, .fr (keyD v), .fr (.int k)] with
  | .ok d _ => isKey d && decide (toKey d = coK L v k)
  | _ => false
def okAt (L : PyData) (v : Key) (k : Nat) : Bool := match f_is_at [.fr L, .fr (keyD (coK L v k)), .fr (.int k)] with
  | .ok (.bool b) _ => b
  | _ => false
def stepsN : PyData → Option Nat
  | .tuple [.str x, .tuple ss] => if x = "num" then some ss.length else none
  | _ => none
def inlV : Key → Int
  | .inl n => n
  | _ => 0
/-- is_at, of a ladder of numbers -/
def okNum (L : PyData) (v : Key) (k n : Nat) : Bool := match coK L v k with
  | .inl i => decide (k ≤ n) && (match f_coarse [.fr L, .fr (.int i), .fr (.int k)] with | .ok (.int j) _ => decide (j = i) | _ => false) && isKey (keyD (coK L (.inl (-999999999)) k)) && decide (coK L (.inl (-999999999)) k = .inl (inlV (coK L (.inl (-999999999)) k))) && decide (inlV (coK L (.inl (-999999999)) k) ≤ i) && decide (coK L (.inl 999999999) k = .inl (inlV (coK L (.inl 999999999) k))) && decide (i ≤ inlV (coK L (.inl 999999999) k))
  | .inr s => decide (n < k ∧ s = "*")
def okAtB (L : PyData) (v : Key) (k : Nat) : Bool := match stepsN L with
  | some n => okNum L v k n
  | none => okAt L v k
def okHead (L : PyData) : Bool := match L with
  | .tuple [.str x, .tuple _] => decide (x = "num" ∨ x = "tree") && (decide (x = "tree") || ((valsK L).any fun v => decide (v = .inl 999999999)) && ((valsK L).any fun v => decide (v = .inl (-999999999))))
  | _ => false
/-- what we ask of a ladder -/
def okL (L : PyData) : Bool := okHead L && okVals L && okTop L && okLevs L && (valsX L).all fun v => (List.range (topN L + 1)).all fun k => okCo L v k && okLCo L v k && okAtB L v k
theorem lads_ok : LadsX.all okL = true := by decide +kernel
theorem okL_of {L : PyData} (h : L ∈ LadsX) : okL L = true := List.all_eq_true.mp lads_ok L h
section
variable {L : PyData} {v : Key} {Q : PyData → Env → Prop}
theorem okL_vals (h : L ∈ LadsX) : okVals L = true := by
  have := okL_of h
  simp only [okL, Bool.and_eq_true] at this
  exact this.1.1.1.2
theorem okL_top (h : L ∈ LadsX) : okTop L = true := by
  have := okL_of h
  simp only [okL, Bool.and_eq_true] at this
  exact this.1.1.2
theorem okL_levs (h : L ∈ LadsX) : okLevs L = true := by
  have := okL_of h
  simp only [okL, Bool.and_eq_true] at this
  exact this.1.2
theorem okL_co (h : L ∈ LadsX) (hv : v ∈ valsX L) {k : Nat} (hk : k ≤ topN L) : (okCo L v k = true ∧ okLCo L v k = true) ∧ okAtB L v k = true := by
  have := okL_of h
  simp only [okL, Bool.and_eq_true] at this
  have := List.all_eq_true.mp (List.all_eq_true.mp this.2 v hv) k (List.mem_range.mpr (by omega))
  rwa [Bool.and_eq_true, Bool.and_eq_true] at this
theorem map_toKey {vs : List PyData} (h : vs.all isKey = true) : keys (vs.map toKey) = vs ∧ ∀ k ∈ vs.map toKey, okK k = true := by
  rw [List.all_eq_true] at h
  refine ⟨?_, fun k hk => ?_⟩
  · unfold keys
    rw [List.map_map]
    exact (List.map_congr_left fun d hd => (toKey_of (h d hd)).1.symm).trans (List.map_id _)
  · obtain ⟨d, hd, rfl⟩ := List.mem_map.mp hk
    exact (toKey_of (h d hd)).2
theorem values_ok (hL : L ∈ LadsX) (h : ∀ ρ', Q (.list (keys (valsK L))) ρ') : Wr (f__law_values [.fr L]) Q := by
  have h1 := okL_vals hL
  unfold okVals at h1
  unfold valsK at h
  cases e : f__law_values [.fr L] with
  | ok d ρ =>
    rw [e] at h h1
    cases d with
    | list vs =>
      simp only [Bool.and_eq_true] at h1
      have := (map_toKey h1.1.2).1
      have h2 := h ρ
      simp only [resD, lst, this] at h2
      exact h2
    | _ => cases h1
  | er _ _ => rw [e] at h1; cases h1
  | bad => rw [e] at h1; cases h1
theorem vals_is (hL : L ∈ LadsX) : 0 < (valsK L).length ∧ (valsK L).length < 1000 ∧ ∀ k ∈ valsK L, okK k = true := by
  have h1 := okL_vals hL
  unfold okVals at h1
  unfold valsK
  cases e : f__law_values [.fr L] with
  | ok d ρ =>
    rw [e] at h1
    cases d with
    | list vs =>
      simp only [Bool.and_eq_true, decide_eq_true_eq] at h1
      simp only [resD, lst]
      refine ⟨?_, by rw [List.length_map]; exact h1.2, (map_toKey h1.1.2).2⟩
      cases vs with
      | nil => exact absurd h1.1.1 (by simp)
      | cons a r => exact Nat.succ_pos _
    | _ => cases h1
  | er _ _ => rw [e] at h1; cases h1
  | bad => rw [e] at h1; cases h1
theorem top_ok (hL : L ∈ LadsX) (h : ∀ ρ', Q (.int (topN L : Nat)) ρ') : Wr (f__law_top [.fr L]) Q := by
  have h1 := okL_top hL
  unfold okTop at h1
  unfold topN at h
  cases e : f__law_top [.fr L] with
  | ok d ρ =>
    rw [e] at h h1
    cases d with
    | int n =>
      have h2 := of_decide_eq_true h1
      have h3 := h ρ
      simp only [resD, intV] at h3
      rw [Int.toNat_of_nonneg (by omega)] at h3
      exact h3
    | _ => cases h1
  | er _ _ => rw [e] at h1; cases h1
  | bad => rw [e] at h1; cases h1
theorem top_is (hL : L ∈ LadsX) : 0 < topN L ∧ topN L < 1000 := by
  have h1 := okL_top hL
  unfold okTop at h1
  unfold topN
  cases e : f__law_top [.fr L] with
  | ok d ρ =>
    rw [e] at h1
    cases d with
    | int n =>
      have h2 := of_decide_eq_true h1
      simp only [resD, intV]
      omega
    | _ => cases h1
  | er _ _ => rw [e] at h1; cases h1
  | bad => rw [e] at h1; cases h1
theorem levels_ok (hL : L ∈ LadsX) (h : ∀ ρ', Q (.int (topN L + 1 : Nat)) ρ') : Wr (f_levels_of [.fr L]) Q := by
  have h1 := okL_levs hL
  unfold okLevs at h1
  cases e : f_levels_of [.fr L] with
  | ok d ρ =>
    rw [e] at h1
    cases d with
    | int n =>
      have := of_decide_eq_true h1
      subst this
      have := h ρ
      simpa using this
    | _ => cases h1
  | er _ _ => rw [e] at h1; cases h1
  | bad => rw [e] at h1; cases h1
theorem coarse_ok (hL : L ∈ LadsX) (hv : v ∈ valsX L) {k : Nat} (hk : k ≤ topN L) (h : ∀ ρ', Q (keyD (coK L v k)) ρ') : Wr (f_coarse [.fr L, .fr (keyD v), .fr (.int k)]) Q := by
  have h1 := (okL_co hL hv hk).1.1
  unfold okCo at h1
  unfold coK at h
  cases e : f_coarse [.fr L, .fr (keyD v), .fr (.int k)] with
  | ok d ρ =>
    rw [e] at h h1
    have := h ρ
    simp only [resD] at this
    rw [← (toKey_of h1).1] at this
    exact this
  | er _ _ => rw [e] at h1; cases h1
  | bad => rw [e] at h1; cases h1
theorem co_okK (hL : L ∈ LadsX) (hv : v ∈ valsX L) {k : Nat} (hk : k ≤ topN L) : okK (coK L v k) = true := by
  have h1 := (okL_co hL hv hk).1.1
  unfold okCo at h1
  unfold coK
  cases e : f_coarse [.fr L, .fr (keyD v), .fr (.int k)] with
  | ok d ρ =>
    rw [e] at h1
    exact (toKey_of h1).2
  | er _ _ => rw [e] at h1; cases h1
  | bad => rw [e] at h1; cases h1
theorem lcoarse_ok (hL : L ∈ LadsX) (hv : v ∈ valsX L) {k : Nat} (hk : k ≤ topN L) (h : ∀ ρ', Q (keyD (coK L v k)) ρ') : Wr (f__law_coarse [.fr L, .fr (keyD v), .fr (.int k)]) Q := by
  have h1 := (okL_co hL hv hk).1.2
  unfold okLCo at h1
  cases e : f__law_coarse [.fr L, .fr (keyD v), .fr (.int k)] with
  | ok d ρ =>
    rw [e] at h1
    have h1 := Bool.and_eq_true_iff.mp h1
    rw [← of_decide_eq_true h1.2, ← (toKey_of h1.1).1] at h
    exact h ρ
  | er _ _ => rw [e] at h1; cases h1
  | bad => rw [e] at h1; cases h1
theorem okL_head (h : L ∈ LadsX) : okHead L = true := by
  have := okL_of h
  simp only [okL, Bool.and_eq_true] at this
  exact this.1.1.1.1
end
end DL

/-! Q3: rolls, plainly; the ladders and persons of a drawn roll. -/
namespace DL
open PySem PySem.Spec PyProof.Rows L2
abbrev Pers := Str × KL
def perD (p : Pers) : PyData := .tuple [.str p.1, kt p.2]
structure Roll where
  lads : List PyData
  pers : List Pers
  kinds : List Str
def Roll.d (r : Roll) : PyData := .tuple [.tuple r.lads, .tuple (r.pers.map perD), .tuple (sL r.kinds)]
/-- a value for each ladder -/
def Pubs : List PyData → KL → Prop
  | [], [] => True
  | L :: r, v :: s => v ∈ valsX L ∧ Pubs r s
  | _, _ => False
/-- a name -/
def nameS (s : Str) : Bool := okS s && decide (0 < s.length ∧ s.length < 13) && s.cps.toList.all fun c => decide (97 ≤ c ∧ c ≤ 122)
theorem nameS_ok {s : Str} (h : nameS s = true) : okS s = true := by
  unfold nameS at h
  rw [Bool.and_eq_true, Bool.and_eq_true] at h
  exact h.1.1
structure Roll.Ok (r : Roll) (mp mk : Nat) : Prop where
  lads : ∀ L ∈ r.lads, L ∈ LadsX
  lad0 : 0 < r.lads.length
  lad4 : r.lads.length ≤ 4
  pubs : ∀ p ∈ r.pers, Pubs r.lads p.2
  nd : (r.pers.map (·.1)).Nodup
  nameOk : ∀ p ∈ r.pers, nameS p.1 = true
  per0 : 0 < r.pers.length
  perM : r.pers.length ≤ mp
  knd : r.kinds.Nodup
  kindOk : ∀ k ∈ r.kinds, nameS k = true
  kin0 : 0 < r.kinds.length
  kinM : r.kinds.length ≤ mk
  ksrt : r.kinds.Pairwise (fun a b => sle a b = true)
theorem pubs_snoc : ∀ {a : List PyData} {b : KL} {L : PyData} {v : Key}, Pubs a b → v ∈ valsX L → Pubs (a ++ [L]) (b ++ [v])
  | [], [], _, _, _, hv => ⟨hv, trivial⟩
  | _ :: _, _ :: _, _, _, h, hv => ⟨h.1, pubs_snoc h.2 hv⟩
  | [], _ :: _, _, _, h, _ => h.elim
  | _ :: _, [], _, _, h, _ => h.elim
theorem pubs_len : ∀ {a : List PyData} {b : KL}, Pubs a b → a.length = b.length
  | [], [], _ => rfl
  | _ :: _, _ :: _, h => congrArg (· + 1) (pubs_len h.2)
  | [], _ :: _, h => h.elim
  | _ :: _, [], h => h.elim
theorem pubs_get : ∀ {a : List PyData} {b : KL} {i : Nat} {L : PyData} {v : Key}, Pubs a b → a[i]? = some L → b[i]? = some v → v ∈ valsX L
  | _ :: _, _ :: _, 0, _, _, h, e1, e2 => by
    simp only [List.getElem?_cons_zero, Option.some.injEq] at e1 e2
    subst e1 e2
    exact h.1
  | _ :: _, _ :: _, i + 1, _, _, h, e1, e2 => pubs_get (i := i) h.2 (by simpa using e1) (by simpa using e2)
  | [], [], _, _, _, _, e1, _ => by simp at e1
  | [], _ :: _, _, _, _, h, _, _ => h.elim
  | _ :: _, [], _, _, _, h, _, _ => h.elim
/-! ### lists by numbers -/
theorem keys_snoc {a : KL} {v : Key} : keys (a ++ [v]) = keys a ++ [keyD v] := by simp [keys]
theorem strs_snoc {a : List Str} {v : Str} : sL (a ++ [v]) = sL a ++ [.str v] := by simp [sL]
theorem ixl_nat {ds : List PyData} {n : Nat} (h : n < ds.length) : ixD (.list ds) (.int (n : Int)) = ds[n]? := atI_nat h
theorem ixt_nat {ds : List PyData} {n : Nat} (h : n < ds.length) : ixD (.tuple ds) (.int (n : Int)) = ds[n]? := atI_nat h
theorem ix_keys {vs : KL} {r : Int} (h0 : 0 ≤ r) (h1 : r < vs.length) : ∃ v, ixD (.list (keys vs)) (.int r) = some (keyD v) ∧ v ∈ vs := by
  obtain ⟨n, rfl⟩ := Int.eq_ofNat_of_zero_le h0
  have hn : n < vs.length := by omega
  refine ⟨vs[n], ?_, List.getElem_mem hn⟩
  rw [ixl_nat (by rw [keys_len]; exact hn)]
  simp [keys, List.getElem?_eq_getElem hn]
theorem at_erase {α : Type} {l : List α} {i : Nat} (h : i < l.length) : (l[i] :: l.eraseIdx i).Perm l := by
  rw [List.eraseIdx_eq_take_drop_succ]
  refine List.Perm.trans List.perm_middle.symm ?_
  rw [List.getElem_cons_drop, List.take_append_drop]
theorem popAt_str {xs : List Str} {r : Nat} (h : r < xs.length) (hl : xs.length ≤ lim) : gPopAt (sL xs) (.int (r : Int)) = some (.str xs[r], sL (xs.eraseIdx r)) := by
  refine (if_pos ⟨by omega, by rw [strs_len]; omega, by rw [strs_len]; exact hl⟩).trans ?_
  simp [sL, List.getElem?_eq_getElem h, List.eraseIdx_eq_take_drop_succ, List.map_take, List.map_drop, List.map_append]
/-! ### the ladders -/
def theNames : List Str := ["ann", "bob", "cy", "dee", "eve", "flo", "gil", "abcdefghijkl", "ivo"]
def theWords : List Str := ["flu", "gout", "ache", "mumps", "rash", "zosterzoster"]
def LadInv (p : Bool) (x y : Int) (n : Nat) (acc : List PyData) (ρ : Env) : Prop := ∃ b, ρ = [.ol p b, .fr (.int x), .fr (.int y), .no, .no, .no, .no, .no, .no, .no, .no, .no] ∧ Bag b ∧ acc.length = n ∧ ∀ L ∈ acc, L ∈ LadsX
theorem roll_start {p : Bool} {b : List PyData} {x y : Int} {N : Env → Prop} {T : PyData → Env → Prop} (hb : Bag b) (h : ∀ b' lads, Bag b' → (∀ L ∈ lads, L ∈ LadsX) → 0 < lads.length → lads.length ≤ 4 → N [.ol p b', .fr (.int x), .fr (.int y), .fr (.list lads), .no, .no, .no, .no, .no, .no, .no, .no]) :
    Wf (sFl 3 (eLc (iArgs range1 (aCons (eOp addD (eC (.int 1)) (eCallF 2 (f__law_draw) (avOwn 0 (avCons (eOp ixD (eLst (aCons (eC (.int 2)) (aCons (eC (.int 2)) (aCons (eC (.int 4)) aNil)))) (eCallF 2 (f__law_draw) (avOwn 0 (avCons (eC (.int 3)) avNil)))) avNil)))) aNil)) (gN 6) tYesD (eCallF 1 (f__law_ladder) (avOwn 0 avNil)) [6]) [.ol p b, .fr (.int x), .fr (.int y), .no, .no, .no, .no, .no, .no, .no, .no, .no]) N T := by
  simp
  refine draw_ok (m := 3) hb (by decide) (by decide) fun r b1 c h0 h1 hb1 => ?_
  have hm : ∃ m : Int, ixD (.list [.int 2, .int 2, .int 4]) (.int r) = some (.int m) ∧ 0 < m ∧ m ≤ 4 := by
    have : r = 0 ∨ r = 1 ∨ r = 2 := by omega
    rcases this with rfl | rfl | rfl <;> exact ⟨_, rfl, by decide, by decide⟩
  obtain ⟨m, em, hm0, hm1⟩ := hm
  simp
  rw [em]
  simp
  refine draw_ok (m := m) hb1 (by omega) (by omega) fun r2 b2 c2 h2 h3 hb2 => ?_
  simp
  rw [range1_int (by omega) (by omega)]
  simp
  refine ⟨by rw [lim_val]; omega, ?_⟩
  refine wr_lcGo _ (LadInv p x y) 0 [] _ ⟨b2, rfl, hb2, rfl, by simp⟩ ?_ ?_
  · rintro i d acc ρ hd ⟨b3, rfl, hb3, hl, hL⟩
    simp
    refine ladder_ok hb3 fun L b4 _ _ _ _ _ _ _ _ hL4 hb4 => ?_
    simp
    refine ⟨b4, rfl, hb4, by simp [hl], ?_⟩
    intro L' hL'
    rcases List.mem_append.mp hL' with q | q
    · exact hL L' q
    · rw [List.mem_singleton] at q
      rw [q]
      exact lads_x hL4
  · rintro xs ρ ⟨b3, rfl, hb3, hl, hL⟩
    simp at hl hL
    simp [backE]
    exact h _ _ hb3 hL (by omega) (by omega)
/-! ### the persons -/
def PerInv (p : Bool) (x y : Int) (lads : List PyData) (n : Nat) (ρ : Env) : Prop := ∃ (b : List PyData) (names : List Str) (pers : List Pers) (c6 c7 c8 c9 : Cell), ρ = [.ol p b, .fr (.int x), .fr (.int y), .fr (.list lads), .ol false (sL names), .ol false (pers.map perD), c6, c7, c8, c9, .no, .no] ∧ Bag b ∧
  (∀ p ∈ pers, Pubs lads p.2) ∧ (pers.map (·.1) ++ names).Nodup ∧ (∀ x ∈ pers.map (·.1) ++ names, x ∈ theNames) ∧ pers.length = n ∧ pers.length + names.length = 9
def PubInv (p : Bool) (x y : Int) (lads : List PyData) (names : List Str) (pers : List Pers) (c6 : Cell) (n : Nat) (ρ : Env) : Prop := ∃ b pubs c8 c9, ρ = [.ol p b, .fr (.int x), .fr (.int y), .fr (.list lads), .ol false (sL names), .ol false (pers.map perD), c6, .ol false (keys pubs), c8, c9, .no, .no] ∧ Bag b ∧
  Pubs (lads.take n) pubs
def pubBody : Env → FlR PyData :=
    (sSeq (sSet 9 (eCallF 1 (f__law_values) (avCons (eVar 8) avNil)))
    (sDo (eMut1 gAppend 7 (eOp ixD (eVar 9) (eCallF 2 (f__law_draw) (avOwn 0 (avCons (eCall lenD (aCons (eVar 9) aNil)) avNil)))))))
theorem pub_turn {p : Bool} {x y : Int} {lads : List PyData} {names : List Str} {pers : List Pers} {c6 : Cell} {n : Nat} {ρ : Env} {L : PyData} {T : PyData → Env → Prop} (h4 : lads.length ≤ 4) (hL : L ∈ LadsX) (hn : lads[n]? = some L) (h : PubInv p x y lads names pers c6 n ρ) :
    Ho (gN 8 L ρ) fun ρ' => Wf (pubBody ρ') (PubInv p x y lads names pers c6 (n + 1)) T := by
  obtain ⟨b, pubs, c8, c9, rfl, hb, hp⟩ := h
  refine ho_of rfl ?_
  unfold pubBody
  simp
  refine values_ok hL fun ρ' => ?_
  have hv := vals_is hL
  simp
  refine draw_ok (m := (valsK L).length) hb (by omega) (by omega) fun r b1 c h0 h1 hb1 => ?_
  obtain ⟨v, ev, hv2⟩ := ix_keys h0 h1
  simp
  refine ho_of ev ?_
  have hl := pubs_len hp
  rw [List.length_take] at hl
  refine ho_of (if_pos (by rw [keys_len, lim_val]; omega)) ?_
  refine ⟨_, pubs ++ [v], _, _, by rw [keys_snoc], hb1, ?_⟩
  rw [List.take_add_one, hn]
  exact pubs_snoc hp (vals_x hv2)
def perBody : Env → FlR PyData :=
    (sSeq (sSetL 7 aNil)
    (sSeq (sFor (iOf iterD (eVar 3)) (gN 8) pubBody)
    (sDo (eMut1 gAppend 5 (eTup (aCons (eMut1 gPopAt 4 (eCallF 2 (f__law_draw) (avOwn 0 (avCons (eLenO 4) avNil)))) (aCons (eCall tupleD (aCons (eVar 7) aNil)) aNil)))))))
theorem per_turn {p : Bool} {x y : Int} {lads : List PyData} {n : Nat} {ρ : Env} {d : PyData} {T : PyData → Env → Prop} (hL : ∀ L ∈ lads, L ∈ LadsX) (h4 : lads.length ≤ 4) (hn : n < 9) (h : PerInv p x y lads n ρ) :
    Ho (gN 6 d ρ) fun ρ' => Wf (perBody ρ') (PerInv p x y lads (n + 1)) T := by
  obtain ⟨b, names, pers, c6, c7, c8, c9, rfl, hb, hp, hnd, hin, hl, hs⟩ := h
  refine ho_of rfl ?_
  unfold perBody
  simp
  refine wf_for _ (PubInv p x y lads names pers (.fr d)) 0 _ ⟨_, [], _, _, rfl, hb, trivial⟩ ?_ ?_
  · intro i L ρ hi hI
    rw [Nat.zero_add] at hI ⊢
    exact pub_turn h4 (hL L (List.mem_of_getElem? hi)) hi hI
  · rintro ρ ⟨b1, pubs, c8', c9', rfl, hb1, hpu⟩
    rw [Nat.zero_add, List.take_length] at hpu
    simp
    refine draw_ok (m := names.length) hb1 (by omega) (by omega) fun r b2 c h0 h1 hb2 => ?_
    obtain ⟨r, rfl⟩ := Int.eq_ofNat_of_zero_le h0
    have hr : r < names.length := by omega
    simp
    refine ho_of (popAt_str hr (by rw [lim_val]; omega)) ?_
    simp
    refine ho_of (if_pos (by rw [List.length_map, lim_val]; omega)) ?_
    have hpm : (names[r] :: names.eraseIdx r).Perm names := at_erase hr
    have hq : (List.map (·.1) (pers ++ [(names[r], pubs)]) ++ names.eraseIdx r).Perm (pers.map (·.1) ++ names) := by
      rw [List.map_append, List.append_assoc]
      exact List.Perm.append_left _ hpm
    refine ⟨b2, names.eraseIdx r, pers ++ [(names[r], pubs)], _, _, _, _, by rw [List.map_append]; rfl, hb2, ?_, hq.nodup_iff.mpr hnd, fun x hx => hin x (hq.mem_iff.mp hx), by simp [hl], by rw [List.length_append, List.length_eraseIdx_of_lt hr]; simp; omega⟩
    intro q hq
    rcases List.mem_append.mp hq with z | z
    · exact hp q z
    · rw [List.mem_singleton] at z
      rw [z]
      exact hpu
end DL

/-! Q4: a drawn roll. -/
namespace DL
open PySem PySem.Spec PyProof.Rows L2
def WordInv (p : Bool) (x y : Int) (lads : List PyData) (c4 c5 c7 c8 c9 : Cell) (n : Nat) (acc : List PyData) (ρ : Env) : Prop := ∃ (b : List PyData) (got left : List Str), ρ = [.ol p b, .fr (.int x), .fr (.int y), .fr (.list lads), c4, c5, .no, c7, c8, c9, .ol false (sL left), .no] ∧ Bag b ∧
  acc = sL got ∧ got.length = n ∧ (got ++ left).Perm theWords
theorem names_ok : ∀ x ∈ theNames, nameS x = true := by decide +kernel
theorem words_ok : ∀ x ∈ theWords, nameS x = true := by decide +kernel
theorem words_nd : theWords.Nodup := by decide +kernel
theorem names_nd : theNames.Nodup := by decide +kernel
theorem roll_ok {p : Bool} {b : List PyData} {x y : Nat} {Q : PyData → Env → Prop} (hb : Bag b) (hx : 0 < x ∧ x ≤ 8) (hy : 0 < y ∧ y ≤ 6)
    (h : ∀ (r : Roll) b' ρ', r.Ok x y → Bag b' → Q r.d (.ol p b' :: ρ')) : Wr (f__law_roll [.ol p b, .fr (.int x), .fr (.int y)]) Q := by
  refine wr_fnN ?_
  unfold b__law_roll
  rw [show [Cell.ol p b, .fr (.int (x : Int)), .fr (.int (y : Int))] ++ List.replicate 9 .no = [.ol p b, .fr (.int x), .fr (.int y), .no, .no, .no, .no, .no, .no, .no, .no, .no] from rfl, ws_seq]
  refine roll_start hb fun b1 lads hb1 hL hl0 hl4 => ?_
  simp only [ws_seq, ws_setL, we_acons, we_c, we_anil, List.set]
  rw [ws_for]
  simp
  refine draw_ok (m := x) hb1 (by omega) (by omega) fun r b2 c h0 h1 hb2 => ?_
  obtain ⟨r, rfl⟩ := Int.eq_ofNat_of_zero_le h0
  simp
  rw [range1_int (by omega) (by omega)]
  simp
  refine wf_for (F := perBody) _ (PerInv p x y lads) 0 _ ⟨b2, theNames, [], _, _, _, _, rfl, hb2, by simp, by simpa using names_nd, by simp, rfl, by simp [theNames]⟩ ?_ ?_
  · intro i d ρ hi hI
    rw [Nat.zero_add] at hI ⊢
    have := (List.getElem?_eq_some_iff.mp hi).1
    simp at this
    exact per_turn hL hl4 (by omega) hI
  · rintro ρ ⟨b3, names, pers, c6, c7, c8, c9, rfl, hb3, hp, hnd, hin, hl, hs⟩
    rw [List.length_map, List.length_range, Nat.zero_add] at hl
    simp
    refine draw_ok (m := y) hb3 (by omega) (by omega) fun r2 b4 c h2 h3 hb4 => ?_
    obtain ⟨r2, rfl⟩ := Int.eq_ofNat_of_zero_le h2
    simp
    rw [range1_int (by omega) (by omega)]
    simp
    refine ⟨by rw [lim_val]; omega, ?_⟩
    refine wr_lcGo _ (WordInv p x y lads _ _ _ _ _) 0 [] _ ⟨b4, [], theWords, rfl, hb4, rfl, rfl, List.Perm.refl _⟩ ?_ ?_
    · rintro i d acc ρ hd ⟨b5, got, left, rfl, hb5, rfl, hg, hpm⟩
      have hi := (List.getElem?_eq_some_iff.mp hd).1
      simp at hi
      rw [Nat.zero_add] at hg ⊢
      have h6 := hpm.length_eq
      rw [List.length_append, show theWords.length = 6 from rfl] at h6
      simp
      refine draw_ok (m := left.length) hb5 (by omega) (by omega) fun r3 b6 c h4 h5 hb6 => ?_
      obtain ⟨r3, rfl⟩ := Int.eq_ofNat_of_zero_le h4
      have hr : r3 < left.length := by omega
      simp
      refine ho_of (popAt_str hr (by rw [lim_val]; omega)) ?_
      simp
      refine ⟨b6, got ++ [left[r3]], left.eraseIdx r3, rfl, hb6, by rw [strs_snoc], by simp [hg], ?_⟩
      rw [List.append_assoc]
      exact (List.Perm.append_left _ (at_erase hr)).trans hpm
    · rintro xs ρ ⟨b5, got, left, rfl, hb5, e, hg, hpm⟩
      simp at e hg
      subst e
      have hok : ∀ z ∈ got, nameS z = true := fun z hz => words_ok z (hpm.mem_iff.mp (List.mem_append_left _ hz))
      simp [backE]
      refine ho_of (sortL_strs (fun z hz => nameS_ok (hok z hz)) (by rw [lim_val]; omega)) ?_
      simp
      refine h ⟨lads, pers, srt got⟩ b5 _ ⟨hL, hl0, hl4, hp, ?_, fun q hq => names_ok _ (hin _ (List.mem_append_left _ (List.mem_map_of_mem hq))), by show 0 < pers.length; omega, by show pers.length ≤ x; omega, ?_, fun z hz => hok z (mem_srt.mp hz), ?_, ?_, srt_pw _⟩ hb5
      · exact (List.nodup_append.mp hnd).1
      · exact (srt_perm got).nodup_iff.mpr (List.nodup_append.mp (hpm.nodup_iff.mpr words_nd)).1
      · show 0 < (srt got).length
        rw [srt_len]; omega
      · show (srt got).length ≤ y
        rw [srt_len]; omega
end DL

/-! S0: knots, what is settled, clashes. -/
namespace DL
open PySem PySem.Spec PyProof.Rows L2
/-! ### sets of texts -/
section
variable {c0 : Cell} {ρ : Env} {Q : PyData → Env → Prop} {QK : List Key → Env → Prop}
@[simp] theorem wk_set {f : Env → R PyData} : Wr (kSet f (c0 :: ρ)) QK = Wr (f (c0 :: ρ)) fun d ρ1 => Ho (setOfD d) fun ks => QK ks ρ1 := by
  simp only [kSet, wr_bind]
  refine congrArg _ (funext fun d => funext fun ρ1 => ?_)
  cases setOfD d <;> simp
@[simp] theorem wk_or {f g : Env → R (List Key)} : Wr (kOr f g (c0 :: ρ)) QK = Wr (f (c0 :: ρ)) fun a ρ1 => Wr (g ρ1) fun b ρ2 => (a ≠ [] ∧ b ≠ [] ∧ a.length + b.length ≤ 60) ∧ QK (a ++ b) ρ2 := by
  simp only [kOr, wr_bind]
  refine congrArg _ (funext fun a => funext fun ρ1 => congrArg _ (funext fun b => funext fun ρ2 => ?_))
  by_cases h : a ≠ [] ∧ b ≠ [] ∧ a.length + b.length ≤ 60
  · rw [if_pos h]; simp only [h, wr_ok, true_and, and_self, ne_eq, not_false_eq_true]
  · rw [if_neg h]; simp only [h, wr_bad, false_and]
@[simp] theorem we_sortK {f : Env → R (List Key)} : Wr (eSortK f (c0 :: ρ)) Q = Wr (f (c0 :: ρ)) fun ks ρ1 => Ho (sortL ((ddK ks).map keyD)) fun z => Q z ρ1 := by
  simp only [eSortK, wr_bind]
  refine congrArg _ (funext fun a => funext fun ρ1 => ?_)
  cases sortL ((ddK a).map keyD) <;> simp
@[simp] theorem we_lenK {f : Env → R (List Key)} : Wr (eLenK f (c0 :: ρ)) Q = Wr (f (c0 :: ρ)) fun ks ρ1 => Q (.int ((ddK ks).length : Nat)) ρ1 := by simp only [eLenK, wr_bind, wr_ok]
end
def inrs (xs : List Str) : List Key := xs.map .inr
theorem keysOf_strs : ∀ (xs : List Str), keysOf (sL xs) = some (inrs xs)
  | [] => rfl
  | x :: r => by
    show (match keyOf (.str x), keysOf (sL r) with | some k, some ks => some (k :: ks) | _, _ => none) = _
    rw [keysOf_strs r]
    rfl
theorem setOf_list {xs : List Str} (h : xs.length < 3000) : setOfD (.list (sL xs)) = some (inrs xs) := by
  unfold setOfD
  simp only [seqD, Option.bind, keysOf_strs]
  rw [if_pos (by simpa [inrs] using h)]
theorem setOf_tup {xs : List Str} (h : xs.length < 3000) : setOfD (.tuple (sL xs)) = some (inrs xs) := by
  unfold setOfD
  simp only [seqD, Option.bind, keysOf_strs]
  rw [if_pos (by simpa [inrs] using h)]
/-- texts, none twice -/
def ddS : List Str → List Str
  | [] => []
  | x :: r => x :: (ddS r).filter fun y => !decide (y = x)
theorem ddK_inrs : ∀ xs : List Str, ddK (inrs xs) = inrs (ddS xs)
  | [] => rfl
  | x :: r => by
    show Sum.inr x :: (ddK (inrs r)).filter _ = _
    rw [ddK_inrs r]
    show _ = inrs (x :: (ddS r).filter fun y => !decide (y = x))
    unfold inrs
    rw [List.map_cons, List.filter_map]
    refine congrArg (fun l => Sum.inr x :: List.map Sum.inr l) (List.filter_congr fun y _ => ?_)
    by_cases h : y = x
    · simp [h]
    · have : ¬ (Sum.inr y : Key) = Sum.inr x := fun e => h (Sum.inr.inj e)
      simp [h, this]
theorem mem_ddS {xs : List Str} {y : Str} : y ∈ ddS xs ↔ y ∈ xs := by
  have := mem_ddK (ks := inrs xs) (j := .inr y)
  rw [ddK_inrs] at this
  simpa [inrs] using this
theorem nd_ddS {xs : List Str} : (ddS xs).Nodup := by
  have := nd_ddK (ks := inrs xs)
  rw [ddK_inrs] at this
  unfold inrs at this
  exact List.Pairwise.of_map (f := Sum.inr) (fun a b h e => h (by rw [e])) this
theorem inrs_data (xs : List Str) : (inrs xs).map keyD = sL xs := by
  unfold inrs sL
  rw [List.map_map]
  rfl
theorem ddS_len : ∀ {xs : List Str}, (ddS xs).length ≤ xs.length
  | [] => Nat.le_refl _
  | x :: r => by
    have := ddS_len (xs := r)
    have h2 := List.length_filter_le (fun y => !decide (y = x)) (ddS r)
    simp only [ddS, List.length_cons]
    omega
theorem ddS_id {xs : List Str} (h : xs.Nodup) : ddS xs = xs := by
  induction xs with
  | nil => rfl
  | cons x r ih =>
    have h2 := List.nodup_cons.mp h
    unfold ddS
    rw [ih h2.2, List.filter_eq_self.mpr]
    intro y hy
    simp
    exact fun e => h2.1 (e ▸ hy)
theorem ddS_len_iff : ∀ {xs : List Str}, (ddS xs).length = xs.length ↔ xs.Nodup
  | [] => by simp [ddS]
  | x :: r => by
    constructor
    · intro h
      have l1 := ddS_len (xs := r)
      have l2 := List.length_filter_le (fun y => !decide (y = x)) (ddS r)
      simp only [ddS, List.length_cons] at h
      have e1 : (ddS r).length = r.length := by omega
      have e2 : ((ddS r).filter fun y => !decide (y = x)).length = (ddS r).length := by omega
      rw [List.length_filter_eq_length_iff] at e2
      refine List.nodup_cons.mpr ⟨fun hx => ?_, ddS_len_iff.mp e1⟩
      have := e2 x (mem_ddS.mpr hx)
      simp at this
    · intro h
      rw [ddS_id h]
/-- all of both, by their order -/
def uni (xs ys : List Str) : List Str := srt (ddS (xs ++ ys))
theorem mem_uni {xs ys : List Str} {y : Str} : y ∈ uni xs ys ↔ y ∈ xs ∨ y ∈ ys := by
  unfold uni
  rw [mem_srt, mem_ddS, List.mem_append]
/-! ### what is settled -/
def nats (l : List Nat) : List PyData := l.map fun i => .int (i : Nat)
@[simp] theorem nats_len {l : List Nat} : (nats l).length = l.length := List.length_map _
def optD : Option Str → PyData
  | none => .none
  | some s => .str s
abbrev St := List (Option Str)
def sett (st : St) : List PyData := st.map optD
@[simp] theorem sett_len {l : St} : (sett l).length = l.length := List.length_map _
def StOk (st : St) : Prop := ∀ o ∈ st, ∀ s, o = some s → okS s = true
structure Knot where
  at' : Nat
  key : KL
  mem : List Nat
  sec : List Str
def Knot.d (k : Knot) : PyData := .tuple [.int (k.at' : Nat), kt k.key, .list (nats k.mem), .tuple (sL k.sec)]
structure Knot.Ok (n : Nat) (k : Knot) : Prop where
  keyOk : ∀ x ∈ k.key, okK x = true
  memLt : ∀ i ∈ k.mem, i < n
  memNd : k.mem.Nodup
  memFew : k.mem.length ≤ 1000
  secOk : ∀ s ∈ k.sec, okS s = true
  secFew : k.sec.length ≤ 50
  sec0 : k.sec ≠ []
  secSrt : k.sec.Pairwise (fun a b => sle a b = true)
def has (st : St) (x : Str) (i : Nat) : Bool := decide (st[i]? = some (some x))
def free (st : St) (i : Nat) : Bool := decide (st[i]? = some none)
def Knot.having (k : Knot) (st : St) (x : Str) : Nat := (k.mem.filter (has st x)).length
def Knot.free (k : Knot) (st : St) : Nat := (k.mem.filter (DL.free st)).length
def Knot.wanted (k : Knot) (x : Str) : Nat := (k.sec.filter fun y => decide (y = x)).length
def Knot.clash (k : Knot) (st : St) (x : Str) : Bool := decide (k.having st x > k.wanted x ∨ k.having st x + k.free st < k.wanted x)
theorem shp_none : shp .none = true := by simp [SeqAt.shaped, PyData.canLay0, PyData.depth]
theorem eqB_opt {o : Option Str} {x : Str} (ho : ∀ s, o = some s → okS s = true) (hx : okS x = true) : eqB (optD o) (.str x) = some (decide (o = some x)) := by
  cases o with
  | none =>
    unfold eqB
    rw [if_pos ⟨shp_none, shp_str hx⟩]
    simp [optD, PyData.eqv]
  | some s =>
    show eqB (.str s) (.str x) = _
    rw [eqB_str (ho s rfl) hx]
    simp
@[simp] theorem isNon_opt {o : Option Str} : isNon (optD o) = decide (o = none) := by cases o <;> rfl
theorem ix_sett {st : St} {i : Nat} (h : i < st.length) : ixD (.list (sett st)) (.int (i : Nat)) = some (optD st[i]) := by
  rw [ixl_nat (by rw [sett_len]; exact h)]
  simp [sett, List.getElem?_eq_getElem h]
theorem clash_ok {k : Knot} {st : St} {x : Str} {Q : PyData → Env → Prop} (hk : k.Ok st.length) (hs : StOk st) (hx : okS x = true) (h : ∀ ρ', Q (.bool (k.clash st x)) ρ') : Wr (f_is_clash [.fr k.d, .fr (.list (sett st)), .fr (.str x)]) Q := by
  refine wr_fnN ?_
  have hf := hk.memFew
  have hsf := hk.secFew
  simp [b_is_clash, Knot.d]
  refine ⟨by rw [lim_val]; omega, ?_⟩
  refine wr_filter (fun i : Nat => .int (i : Nat)) (has st x) (fun i => .int (i : Nat)) k.mem rfl (fun i hi => ?_) ?_
  · simp
    have hl := hk.memLt i hi
    refine ho_of (ix_sett hl) (ho_of (eqB_opt (fun s e => hs _ (List.getElem_mem hl) s e) hx) ?_)
    simp [has, List.getElem?_eq_getElem hl]
  simp [backE]
  refine ⟨by rw [lim_val]; omega, ?_⟩
  refine wr_filter (fun i : Nat => .int (i : Nat)) (free st) (fun i => .int (i : Nat)) k.mem rfl (fun i hi => ?_) ?_
  · simp
    have hl := hk.memLt i hi
    refine ho_of (ix_sett hl) ?_
    simp [DL.free, List.getElem?_eq_getElem hl]
  simp [backE]
  refine ⟨by rw [lim_val]; omega, ?_⟩
  refine wr_filter (fun s : Str => .str s) (fun y => decide (y = x)) (fun s => .str s) k.sec rfl (fun s hi => ?_) ?_
  · simp
    refine ho_of (eqB_str (hk.secOk s hi) hx) ?_
    simp
  simp [backE]
  have := h
  unfold Knot.clash Knot.having Knot.free Knot.wanted at this
  split
  · rename_i hc
    have e : (decide ((k.mem.filter (has st x)).length > (k.sec.filter fun y => decide (y = x)).length ∨ (k.mem.filter (has st x)).length + (k.mem.filter (DL.free st)).length < (k.sec.filter fun y => decide (y = x)).length)) = true := decide_eq_true (.inl hc)
    rw [e] at this
    exact this _
  · rename_i hc
    have := this
    simp only [gt_iff_lt, hc, false_or] at this
    refine (iff_of_eq (congrArg (fun b => Q (.bool b) _) ?_)).mp (this _)
    refine decide_eq_decide.mpr ?_
    omega
end DL

/-! S1: the methods of the settling object. -/
namespace DL
open PySem PySem.Spec PyProof.Rows L2
structure Sg where
  names : List Str
  kinds : List Str
  knots : List Knot
def Sg.fs (S : Sg) : List (Str × PyData) := [("names_known", .list (sL S.names)), ("kinds_known", .tuple (sL S.kinds)), ("knots", .list (S.knots.map Knot.d))]
structure Sg.Ok (S : Sg) : Prop where
  nd : S.names.Nodup
  nameOk : ∀ s ∈ S.names, okS s = true
  n8 : S.names.length ≤ 8
  kindOk : ∀ s ∈ S.kinds, okS s = true
  knd : S.kinds.Nodup
  k6 : S.kinds.length ≤ 6
  k0 : S.kinds ≠ []
  ksrt : S.kinds.Pairwise (fun a b => sle a b = true)
  knots : ∀ k ∈ S.knots, k.Ok S.names.length
  few : S.knots.length ≤ 1000
@[simp] theorem fs_names {S : Sg} : S.fs.lookup ("names_known" : Str) = some (.list (sL S.names)) := rfl
@[simp] theorem fs_kinds {S : Sg} : S.fs.lookup ("kinds_known" : Str) = some (.tuple (sL S.kinds)) := rfl
@[simp] theorem fs_knots {S : Sg} : S.fs.lookup ("knots" : Str) = some (.list (S.knots.map Knot.d)) := rfl
@[simp] theorem fs_m1 {S : Sg} : S.fs.lookup ("first_clash" : Str) = none := rfl
@[simp] theorem fs_m2 {S : Sg} : S.fs.lookup ("next_person" : Str) = none := rfl
@[simp] theorem fs_m3 {S : Sg} : S.fs.lookup ("grown" : Str) = none := rfl
@[simp] theorem fs_m4 {S : Sg} : S.fs.lookup ("settled_more" : Str) = none := rfl
@[simp] theorem fs_m5 {S : Sg} : S.fs.lookup ("nobody" : Str) = none := rfl
@[simp] theorem fs_m6 {S : Sg} : S.fs.lookup ("world_or_none" : Str) = none := rfl
@[simp] theorem fs_m7 {S : Sg} : S.fs.lookup ("number_named" : Str) = none := rfl
def clashD (k : Knot) (x : Str) : PyData := .tuple [.str "clash", .int (k.at' : Nat), kt k.key, .str x]
def splitD (nm : Str) (ts : List PyData) : PyData := .tuple [.str "split", .str nm, .tuple ts]
def treeD (t : PyData) : PyData := .tuple [.str "tree", t]
def worldD (w : List Str) : PyData := .tuple [.str "world", .tuple (sL w)]
section
variable {S : Sg} {p : Bool} {st : St} {Q : PyData → Env → Prop}
theorem nobody_ok (h : ∀ ρ', Q (.list (sett (S.names.map fun _ => none))) (.oi p 0 S.fs :: ρ')) (hS : S.Ok) : Wr (f_Settling_nobody [.oi p 0 S.fs]) Q := by
  refine wr_fnN ?_
  have := hS.n8
  simp [b_Settling_nobody]
  refine ⟨by rw [lim_val]; omega, ?_⟩
  refine wr_map (fun s : Str => .str s) (fun _ => .none) S.names rfl (fun x hx => by simp) ?_
  simp [backE]
  have e : sett (S.names.map fun _ => none) = S.names.map fun _ => PyData.none := by
    unfold sett
    rw [List.map_map]
    rfl
  rw [e] at h
  simpa using h _
theorem set_take {α : Type} (st : List α) (i : Nat) (x : α) (h : i < st.length) : st.take i ++ [x] ++ st.drop (i + 1) = st.set i x := by
  rw [List.set_eq_take_append_cons_drop, if_pos h, List.append_assoc]
  rfl
theorem more_ok {i : Nat} {x : Str} (hi : i < st.length) (hl : st.length ≤ 1000) (h : ∀ ρ', Q (.list (sett (st.set i (some x)))) (.oi p 0 S.fs :: ρ')) : Wr (f_Settling_settled_more [.oi p 0 S.fs, .fr (.list (sett st)), .fr (.int (i : Nat)), .fr (.str x)]) Q := by
  refine wr_fnN ?_
  simp [b_Settling_settled_more, slD]
  rw [cut_lo _ _ (by rw [sett_len]; omega)]
  refine ho_of (if_pos (by rw [List.length_take, sett_len, lim_val, List.length_singleton]; omega)) ?_
  have e1 : ((i : Int) + 1) = ((i + 1 : Nat) : Int) := by omega
  rw [e1, cut_hi _ _ (by rw [sett_len]; omega)]
  refine ho_of (if_pos (by rw [List.length_append, List.length_take, List.length_drop, sett_len, lim_val, List.length_singleton]; omega)) ?_
  have e2 : List.take i (sett st) ++ [PyData.str x] ++ List.drop (i + 1) (sett st) = sett (st.set i (some x)) := by
    rw [set_take _ _ _ (by rw [sett_len]; exact hi)]
    unfold sett
    rw [List.map_set]
    rfl
  rw [e2]
  exact h _
/-! ### the first clash -/
def firstClash (kinds : List Str) (st : St) : List Knot → Option (Knot × Str)
  | [] => none
  | k :: r => match (uni k.sec kinds).find? (k.clash st) with
    | some x => some (k, x)
    | none => firstClash kinds st r
def clashO : Option (Knot × Str) → PyData
  | none => .none
  | some (k, x) => clashD k x
theorem firstClash_skip {kinds : List Str} {st : St} : ∀ {pre r : List Knot}, (∀ k ∈ pre, (uni k.sec kinds).find? (k.clash st) = none) → firstClash kinds st (pre ++ r) = firstClash kinds st r
  | [], _, _ => rfl
  | k :: pre, r, h => by
    show (match (uni k.sec kinds).find? (k.clash st) with | some x => some (k, x) | none => firstClash kinds st (pre ++ r)) = _
    rw [h k List.mem_cons_self]
    exact firstClash_skip fun k' hk => h k' (List.mem_cons_of_mem _ hk)
theorem firstClash_none {kinds : List Str} {st : St} : ∀ {ks : List Knot}, firstClash kinds st ks = none → ∀ k ∈ ks, ∀ x ∈ uni k.sec kinds, k.clash st x = false
  | [], _, k, hk, _, _ => nomatch hk
  | k0 :: r, h, k, hk, x, hx => by
    unfold firstClash at h
    cases e : (uni k0.sec kinds).find? (k0.clash st) with
    | some y => rw [e] at h; cases h
    | none =>
      rw [e] at h
      rcases List.mem_cons.mp hk with z | z
      · subst z
        have := List.find?_eq_none.mp e x hx
        simpa using this
      · exact firstClash_none h k z x hx
theorem firstClash_some {kinds : List Str} {st : St} : ∀ {ks : List Knot} {k : Knot} {x : Str}, firstClash kinds st ks = some (k, x) → k ∈ ks ∧ x ∈ uni k.sec kinds ∧ k.clash st x = true
  | [], _, _, h => nomatch h
  | k0 :: r, k, x, h => by
    unfold firstClash at h
    cases e : (uni k0.sec kinds).find? (k0.clash st) with
    | some y =>
      rw [e] at h
      cases h
      exact ⟨List.mem_cons_self, List.mem_of_find?_eq_some e, List.find?_some e⟩
    | none =>
      rw [e] at h
      obtain ⟨h1, h2⟩ := firstClash_some (ks := r) h
      exact ⟨List.mem_cons_of_mem _ h1, h2⟩
theorem uni_ok {k : Knot} {n : Nat} (hk : k.Ok n) (hS : S.Ok) : ∀ x ∈ uni k.sec S.kinds, okS x = true := fun x hx => by
  rcases mem_uni.mp hx with z | z
  · exact hk.secOk x z
  · exact hS.kindOk x z
theorem fc_ok {ks : List Knot} (hS : S.Ok) (hks : ∀ k ∈ ks, k ∈ S.knots) (hst : StOk st) (hl : st.length = S.names.length) (h : ∀ ρ', Q (clashO (firstClash S.kinds st ks)) (.oi p 0 S.fs :: ρ')) :
    Wr (f_Settling_first_clash [.oi p 0 S.fs, .fr (.list (sett st)), .fr (.list (ks.map Knot.d))]) Q := by
  refine wr_fnN ?_
  unfold b_Settling_first_clash
  simp
  refine wf_loop Knot.d (fun pre ρ => (∃ c3 c4, ρ = [.oi p 0 S.fs, .fr (.list (sett st)), .fr (.list (ks.map Knot.d)), c3, c4]) ∧ ∀ k ∈ pre, (uni k.sec S.kinds).find? (k.clash st) = none) ks _ ⟨⟨_, _, rfl⟩, by simp⟩ ?_ ?_
  · rintro pre k post ρ hd ⟨⟨c3, c4, rfl⟩, hpre⟩
    have hk : k ∈ ks := by rw [← hd]; simp
    have ok := hS.knots k (hks k hk)
    have k6 := hS.k6
    have s50 := ok.secFew
    refine ho_of rfl ?_
    simp only [List.set]
    simp
    refine ho_of (z := .tuple (sL k.sec)) rfl ?_
    refine ho_of (setOf_tup (by omega)) ?_
    refine ho_of (setOf_tup (by omega)) ?_
    refine ⟨⟨by simpa [inrs] using ok.sec0, by simpa [inrs] using hS.k0, by simp [inrs]; omega⟩, ?_⟩
    have eu : ddK (inrs k.sec ++ inrs S.kinds) = inrs (ddS (k.sec ++ S.kinds)) := by
      rw [show inrs k.sec ++ inrs S.kinds = inrs (k.sec ++ S.kinds) from by simp [inrs], ddK_inrs]
    rw [eu, inrs_data]
    have okU : ∀ x ∈ ddS (k.sec ++ S.kinds), okS x = true := fun x hx => uni_ok ok hS x (by unfold uni; exact mem_srt.mpr hx)
    refine ho_of (sortL_strs okU (by
      have := ddS_len (xs := k.sec ++ S.kinds)
      rw [List.length_append] at this
      rw [lim_val]; omega)) ?_
    simp
    refine wf_loop (fun s : Str => .str s) (fun prex ρ => (∃ c4, ρ = [.oi p 0 S.fs, .fr (.list (sett st)), .fr (.list (ks.map Knot.d)), .fr k.d, c4]) ∧ ∀ x ∈ prex, k.clash st x = false) (uni k.sec S.kinds) _ ⟨⟨_, rfl⟩, by simp⟩ ?_ ?_
    · rintro prex x postx ρ hdx ⟨⟨c4, rfl⟩, hprex⟩
      have hx : x ∈ uni k.sec S.kinds := by rw [← hdx]; simp
      refine ho_of rfl ?_
      simp only [List.set]
      simp
      refine clash_ok (by rw [hl]; exact ok) hst (uni_ok ok hS x hx) fun ρ' => ?_
      simp
      cases ec : k.clash st x with
      | true =>
        simp
        refine ho_of (z := .int (k.at' : Nat)) rfl (ho_of (z := kt k.key) rfl ?_)
        have ef : (uni k.sec S.kinds).find? (k.clash st) = some x := by
          rw [← hdx, List.find?_append, List.find?_eq_none.mpr (fun y hy => by simp [hprex y hy])]
          simp [ec]
        have e1 : firstClash S.kinds st ks = some (k, x) := by
          rw [← hd, firstClash_skip hpre]
          unfold firstClash
          rw [ef]
        rw [e1] at h
        exact h _
      | false =>
        simp
        intro y hy
        rcases hy with z | z
        · exact hprex y z
        · rw [z]; exact ec
    · rintro ρ ⟨⟨c4, rfl⟩, hall⟩
      refine ⟨⟨_, _, rfl⟩, ?_⟩
      intro k' hk'
      rcases hk' with z | z
      · intro x hx
        have := List.find?_eq_none.mp (hpre k' z) x hx
        simpa using this
      · rw [z]
        exact fun x hx => hall x hx
  · rintro ρ ⟨⟨c3, c4, rfl⟩, hall⟩
    simp
    have : firstClash S.kinds st ks = none := by
      have := firstClash_skip (r := []) (kinds := S.kinds) (st := st) (pre := ks) (fun k hk => hall k hk)
      simpa [firstClash] using this
    rw [this] at h
    exact h _
end
end DL

/-! S2: who is settled next; a world grown, or a tree. -/
namespace DL
open PySem PySem.Spec PyProof.Rows L2
section
variable {S : Sg} {p : Bool} {st : St} {Q : PyData → Env → Prop}
def natO : Option Nat → PyData
  | none => .none
  | some i => .int (i : Nat)
/-- who may be next -/
def NextOk (st : St) (o : Option Nat) : Prop := match o with
  | none => ∀ i, i < st.length → free st i = false
  | some i => i < st.length ∧ free st i = true
theorem free_lt {i : Nat} (h : free st i = true) : i < st.length := by
  unfold free at h
  rw [decide_eq_true_eq] at h
  exact (List.getElem?_eq_some_iff.mp h).1
theorem neB_nats {a b : List Nat} : neB (.list (nats a)) (.list (nats b)) = some (decide (a ≠ b)) := by
  have can : ∀ l : List Nat, PyData.canLayAll0 (nats l) = true := fun l => by
    induction l with
    | nil => simp [nats, PyData.canLayAll0]
    | cons x r ih =>
      show PyData.canLayAll0 (.int (x : Nat) :: nats r) = true
      simp [PyData.canLayAll0, PyData.canLay0, ih]
  have dep : ∀ l : List Nat, PyData.depthAll (nats l) = 0 := fun l => by
    induction l with
    | nil => simp [nats, PyData.depthAll]
    | cons x r ih =>
      show PyData.depthAll (.int (x : Nat) :: nats r) = 0
      simp [PyData.depthAll, PyData.depth, ih]
  have ev : ∀ a b : List Nat, PyData.eqvAll (nats a) (nats b) = decide (a = b) := fun a => by
    induction a with
    | nil => intro b; cases b <;> simp [nats, PyData.eqvAll]
    | cons x r ih =>
      intro b
      cases b with
      | nil => simp [nats, PyData.eqvAll]
      | cons y t =>
        show PyData.eqvAll (.int (x : Nat) :: nats r) (.int (y : Nat) :: nats t) = _
        simp only [PyData.eqvAll, PyData.eqv, ih t]
        by_cases h1 : x = y <;> by_cases h2 : r = t <;> simp [h1, h2]
        omega
  unfold neB
  rw [if_pos ⟨by simp [SeqAt.shaped, PyData.canLay0, PyData.depth, can, dep], by simp [SeqAt.shaped, PyData.canLay0, PyData.depth, can, dep]⟩]
  simp only [PyData.eqv, ev]
  by_cases h : a = b <;> simp [h]
theorem ixl_zero {x : PyData} {r : List PyData} : ixD (.list (x :: r)) (.int 0) = some x := by
  rw [show (0 : Int) = ((0 : Nat) : Int) from rfl, ixl_nat (by simp)]
  rfl
/-- the numbers that are left -/
def LeftOk (st : St) (l : List Nat) : Prop := (∀ i ∈ l, free st i = true) ∧ (l = [] → ∀ i, i < st.length → free st i = false)
theorem next_ok (hS : S.Ok) (hst : StOk st) (hl : st.length = S.names.length) (h : ∀ o ρ', NextOk st o → Q (natO o) (.oi p 0 S.fs :: ρ')) : Wr (f_Settling_next_person [.oi p 0 S.fs, .fr (.list (sett st))]) Q := by
  refine wr_fnN ?_
  have n8 := hS.n8
  unfold b_Settling_next_person
  simp
  rw [show enumD 0 (sett st) = (st.zipIdx).map fun p => .tuple [.int (p.2 : Nat), optD p.1] from enumD_map optD st]
  refine ⟨by rw [List.length_map, List.length_zipIdx, lim_val]; omega, ?_⟩
  refine wr_filter (fun p : Option Str × Nat => .tuple [.int (p.2 : Nat), optD p.1]) (fun p => decide (p.1 = none)) (fun p => .int (p.2 : Nat)) st.zipIdx rfl (fun x hx => by simp) ?_
  simp [backE]
  have e1 : List.map (fun p : Option Str × Nat => PyData.int (p.2 : Nat)) (List.filter (fun p => decide (p.1 = none)) st.zipIdx) = nats ((List.filter (fun p => decide (p.1 = none)) st.zipIdx).map (·.2)) := by
    unfold nats
    rw [List.map_map]
    rfl
  rw [e1]
  have ok1 : LeftOk st ((List.filter (fun p => decide (p.1 = none)) st.zipIdx).map (·.2)) := by
    constructor
    · intro i hi
      obtain ⟨⟨o, j⟩, hm, rfl⟩ := List.mem_map.mp hi
      obtain ⟨h1, h2⟩ := List.mem_filter.mp hm
      have h3 := List.mem_zipIdx_iff_getElem?.mp h1
      simp at h2
      subst h2
      simp only at h3
      simp [free, h3]
    · intro e i hi
      simp only [List.map_eq_nil_iff, List.filter_eq_nil_iff] at e
      have := e (st[i], i) (List.mem_zipIdx_iff_getElem?.mpr (by simp [List.getElem?_eq_getElem hi]))
      simp at this
      simp [free, List.getElem?_eq_getElem hi, this]
  refine wf_loop Knot.d (fun _ ρ => ∃ l c3 c4 c5 c6 c7, ρ = [.oi p 0 S.fs, .fr (.list (sett st)), .fr (.list (nats l)), c3, c4, c5, c6, c7, .no, .no] ∧ LeftOk st l ∧ l.length ≤ 1000) S.knots _ ⟨_, _, _, _, _, _, rfl, ok1, ?_⟩ ?_ ?_
  · rw [List.length_map]
    refine Nat.le_trans (List.length_filter_le _ _) ?_
    rw [List.length_zipIdx]; omega
  · rintro pre k post ρ hd ⟨l, c3, c4, c5, c6, c7, rfl, hL, hl2⟩
    have hk : k ∈ S.knots := by rw [← hd]; simp
    have ok := hS.knots k hk
    have mf := ok.memFew
    refine ho_of (by unfold Knot.d; simp [List.set]; exact rfl) ?_
    simp
    refine ⟨by rw [lim_val]; omega, ?_⟩
    refine wr_filter (fun i : Nat => .int (i : Nat)) (free st) (fun i => .int (i : Nat)) k.mem rfl (fun i hi => ?_) ?_
    · simp
      have hli := ok.memLt i hi
      rw [← hl] at hli
      refine ho_of (ix_sett hli) ?_
      simp [DL.free, List.getElem?_eq_getElem hli]
    · simp [backE]
      refine ho_of (neB_nats (a := k.mem.filter (free st)) (b := [])) ?_
      have okf : (k.mem.filter (free st)) ≠ [] → LeftOk st (k.mem.filter (free st)) := fun hne => ⟨fun i hi => (List.mem_filter.mp hi).2, fun e => absurd e hne⟩
      have lf : (k.mem.filter (free st)).length ≤ 1000 := Nat.le_trans (List.length_filter_le _ _) mf
      generalize k.mem.filter (free st) = F at *
      cases F with
      | nil =>
        simp
        exact ⟨l, rfl, hL, hl2⟩
      | cons i r =>
        simp
        split
        · exact ⟨i :: r, rfl, okf (by simp), lf⟩
        · exact ⟨l, rfl, hL, hl2⟩
  · rintro ρ ⟨l, c3, c4, c5, c6, c7, rfl, hL, hl2⟩
    simp
    refine ho_of (neB_nats (a := l) (b := [])) ?_
    cases l with
    | nil =>
      simp
      exact h none _ (hL.2 rfl)
    | cons i r =>
      simp
      refine ho_of (z := .int (i : Nat)) ixl_zero ?_
      have hf := hL.1 i List.mem_cons_self
      exact h (some i) _ ⟨free_lt hf, hf⟩
end
end DL

/-! S3: a world grown, or a tree that holds. -/
namespace DL
open PySem PySem.Spec PyProof.Rows L2
/-- a tree that holds for what is settled, its depth at most d -/
inductive Hold (S : Sg) : Nat → St → PyData → Prop
  | clash {d : Nat} {st : St} {k : Knot} {x : Str} : k ∈ S.knots → okS x = true → k.clash st x = true → Hold S d st (clashD k x)
  | split {d i : Nat} {st : St} {nm : Str} {ts : List PyData} : S.names[i]? = some nm → free st i = true → ts.length = S.kinds.length → (∀ (j : Nat) (x : Str) (t : PyData), S.kinds[j]? = some x → ts[j]? = some t → Hold S d (st.set i (some x)) t) → Hold S (d + 1) st (splitD nm ts)
/-- how many are left -/
def nfree (st : St) : Nat := (st.filter fun o => decide (o = none)).length
theorem nfree_set : ∀ {st : St} {i : Nat} {x : Str}, free st i = true → nfree (st.set i (some x)) + 1 = nfree st
  | [], i, x, h => by simp [free] at h
  | o :: r, 0, x, h => by
    simp [free] at h
    subst h
    simp [nfree]
  | o :: r, i + 1, x, h => by
    have h' : free r i = true := by simpa [free] using h
    have ih := nfree_set (x := x) h'
    unfold nfree at ih ⊢
    rw [List.set_cons_succ, List.filter_cons, List.filter_cons]
    by_cases e : o = none
    · simp only [e, decide_true, if_true, List.length_cons]; omega
    · simp only [e, decide_false, Bool.false_eq_true, if_false]; exact ih
theorem nfree_pos {st : St} {i : Nat} (h : free st i = true) : 0 < nfree st := by
  have := nfree_set (x := Str.empty) h
  omega
/-- the world goes on from what is settled -/
def Ext (S : Sg) (st : St) (w : List Str) : Prop := w.length = st.length ∧ (∀ (i : Nat) (x : Str), st[i]? = some (some x) → w[i]? = some x) ∧ ∀ i, free st i = true → ∃ x, w[i]? = some x ∧ x ∈ S.kinds
/-- no group has too many or too few -/
def Calm (S : Sg) (st : St) : Prop := ∀ k ∈ S.knots, ∀ x ∈ uni k.sec S.kinds, k.clash st x = false
theorem having_set {k : Knot} {st : St} {i : Nat} {x y : Str} (h : i ∉ k.mem) : k.clash (st.set i (some x)) y = k.clash st y := by
  have e1 : k.mem.filter (has (st.set i (some x)) y) = k.mem.filter (has st y) := List.filter_congr fun j hj => by
    unfold has
    rw [List.getElem?_set_ne (fun e : i = j => h (by rw [e]; exact hj))]
  have e2 : k.mem.filter (free (st.set i (some x))) = k.mem.filter (free st) := List.filter_congr fun j hj => by
    unfold DL.free
    rw [List.getElem?_set_ne (fun e : i = j => h (by rw [e]; exact hj))]
  unfold Knot.clash Knot.having Knot.free
  rw [e1, e2]
section
variable {S : Sg} {p : Bool} {Q : PyData → Env → Prop}
/-- what growing gives -/
def Grown (S : Sg) (st : St) (d : PyData) : Prop := (∃ w, d = worldD w ∧ Ext S st w ∧ Calm S (w.map some)) ∨ ∃ t, d = treeD t ∧ Hold S (nfree st) st t
theorem eqB_word {a b : Str} (ha : okS a = true) (hb : okS b = true) : eqB (.str a) (.str b) = some (decide (a = b)) := eqB_str ha hb
theorem inB_nats {i : Nat} {l : List Nat} (h : l.length ≤ 1000) : inB (.int (i : Nat)) (.list (nats l)) = some (decide (i ∈ l)) := by
  have can : PyData.canLayAll0 (nats l) = true := by
    clear h
    induction l with
    | nil => simp [nats, PyData.canLayAll0]
    | cons x r ih =>
      show PyData.canLayAll0 (.int (x : Nat) :: nats r) = true
      simp [PyData.canLayAll0, PyData.canLay0, ih]
  have dep : PyData.depthAll (nats l) = 0 := by
    clear h can
    induction l with
    | nil => simp [nats, PyData.depthAll]
    | cons x r ih =>
      show PyData.depthAll (.int (x : Nat) :: nats r) = 0
      simp [PyData.depthAll, PyData.depth, ih]
  have e0 : inB (.int (i : Nat)) (.list (nats l)) = some ((nats l).any fun z => PyData.eqv z (.int (i : Nat))) := if_pos ⟨by simp [SeqAt.shaped, PyData.canLay0, PyData.depth], by simp [SeqAt.shaped, PyData.canLay0, PyData.depth, can, dep]⟩
  rw [e0]
  congr 1
  clear e0
  clear h can dep
  induction l with
  | nil => rfl
  | cons x r ih =>
    show (PyData.eqv (.int (x : Nat)) (.int (i : Nat)) || (nats r).any _) = _
    rw [ih]
    simp only [PyData.eqv]
    by_cases e : i = x
    · simp [e]
    · have : ¬ ((x : Int) = (i : Int)) := by omega
      simp [e, this]
theorem sett_full {st : St} (h : ∀ i, i < st.length → free st i = false) : ∃ w : List Str, st = w.map some := by
  induction st with
  | nil => exact ⟨[], rfl⟩
  | cons o r ih =>
    have h0 := h 0 (by simp)
    obtain ⟨w, e⟩ := ih fun i hi => by
      have := h (i + 1) (by simp; omega)
      simpa [free] using this
    cases o with
    | none => simp [free] at h0
    | some x => exact ⟨x :: w, by rw [e]; rfl⟩
theorem sett_some (w : List Str) : sett (w.map some) = sL w := by
  unfold sett sL
  rw [List.map_map]
  rfl
theorem grown_ok (hS : S.Ok) : ∀ (n : Nat) (p : Bool) (st : St) (near : List Knot) {Q : PyData → Env → Prop}, nfree st < n → StOk st → st.length = S.names.length → (∀ k ∈ near, k ∈ S.knots) →
    (∀ k ∈ S.knots, k ∈ near ∨ ∀ x ∈ uni k.sec S.kinds, k.clash st x = false) → (∀ d ρ', Grown S st d → Q d (.oi p 0 S.fs :: ρ')) →
    Wr (f_Settling_grown n [.oi p 0 S.fs, .fr (.list (sett st)), .fr (.list (near.map Knot.d))]) Q := by
  intro n
  induction n with
  | zero => intro p st near Q h; exact absurd h (Nat.not_lt_zero _)
  | succ n ih =>
    intro p st near Q hn hst hl hnear hinv h
    show Wr (fnN 8 (b_Settling_grown (f_Settling_grown n)) _) Q
    refine wr_fnN ?_
    have n8 := hS.n8
    have k6 := hS.k6
    unfold b_Settling_grown
    simp [-List.lookup_eq_none_iff]
    refine fc_ok hS hnear hst hl fun ρ1 => ?_
    simp [-List.lookup_eq_none_iff]
    cases efc : firstClash S.kinds st near with
    | some kx =>
      obtain ⟨k, x⟩ := kx
      obtain ⟨c1, c2, c3⟩ := firstClash_some efc
      have hk := hnear k c1
      rw [show isNon (clashO (some (k, x))) = false from rfl]
      simp [-List.lookup_eq_none_iff]
      exact h _ _ (.inr ⟨_, rfl, .clash hk (uni_ok (hS.knots k hk) hS x c2) c3⟩)
    | none =>
      have calm : Calm S st := fun k hk x hx => by
        rcases hinv k hk with z | z
        · exact firstClash_none efc k z x hx
        · exact z x hx
      rw [show isNon (clashO none) = true from rfl]
      simp [-List.lookup_eq_none_iff]
      refine next_ok hS hst hl fun o ρ2 ho => ?_
      simp [-List.lookup_eq_none_iff]
      cases o with
      | none =>
        rw [show isNon (natO none) = true from rfl]
        simp [-List.lookup_eq_none_iff]
        obtain ⟨w, rfl⟩ := sett_full ho
        rw [sett_some]
        refine h _ _ (.inl ⟨w, rfl, ⟨by simp, fun i x e => ?_, fun i e => ?_⟩, calm⟩)
        · rw [List.getElem?_map] at e
          cases h2 : w[i]? with
          | none => rw [h2] at e; cases e
          | some y => rw [h2] at e; cases e; rfl
        · have := ho i (free_lt e)
          rw [e] at this
          cases this
      | some i =>
        obtain ⟨hi, hf⟩ := ho
        rw [show isNon (natO (some i)) = false from rfl]
        simp [-List.lookup_eq_none_iff]
        refine ⟨by rw [lim_val]; have := hS.few; omega, ?_⟩
        refine wr_filter Knot.d (fun k => decide (i ∈ k.mem)) Knot.d S.knots (by simp) (fun k hk => ?_) ?_
        · simp
          refine ho_of (z := .list (nats k.mem)) rfl (ho_of (inB_nats (hS.knots k hk).memFew) ?_)
          simp [-List.lookup_eq_none_iff]
        · simp [backE]
          refine wf_loop (fun s : Str => .str s) (fun pre ρ => ∃ ts c7 c8 c9, ρ = [.oi p 0 S.fs, .fr (.list (sett st)), .fr (.list (near.map Knot.d)), .fr (clashO none), .fr (natO (some i)), .ol false ts, .fr (.list ((S.knots.filter fun k => decide (i ∈ k.mem)).map Knot.d)), c7, c8, c9, .no] ∧ ts.length = pre.length ∧
            ∀ (j : Nat) (x : Str) (t : PyData), pre[j]? = some x → ts[j]? = some t → Hold S (nfree st - 1) (st.set i (some x)) t) S.kinds _ ⟨[], _, _, _, rfl, rfl, fun j x t e => by simp at e⟩ ?_ ?_
          · rintro pre x post ρ hd ⟨ts, c7, c8, c9, rfl, hlen, hts⟩
            have hx : x ∈ S.kinds := by rw [← hd]; simp
            have okx := hS.kindOk x hx
            refine ho_of rfl ?_
            simp only [List.set]
            simp [-List.lookup_eq_none_iff, natO]
            refine more_ok hi (by omega) fun ρ3 => ?_
            simp [-List.lookup_eq_none_iff]
            have hst' : StOk (st.set i (some x)) := fun o ho s e => by
              rcases List.mem_or_eq_of_mem_set ho with z | z
              · exact hst o z s e
              · rw [z] at e
                cases e
                exact okx
            have hnf := nfree_set (x := x) hf
            refine ih true (st.set i (some x)) (S.knots.filter fun k => decide (i ∈ k.mem)) (by omega) hst' (by rw [List.length_set]; exact hl) (fun k hk => (List.mem_filter.mp hk).1) (fun k hk => ?_) fun d ρ4 hg => ?_
            · by_cases hm : i ∈ k.mem
              · exact .inl (List.mem_filter.mpr ⟨hk, by simpa using hm⟩)
              · exact .inr fun y hy => by rw [having_set hm]; exact calm k hk y hy
            · rcases hg with ⟨w, rfl, ext, cw⟩ | ⟨t, rfl, ht⟩
              · refine ho_of (by simp [worldD, gN]; rfl) ?_
                simp
                refine ho_of (eqB_str (by decide +kernel) (by decide +kernel)) ?_
                simp
                refine h _ _ (.inl ⟨w, rfl, ⟨by rw [ext.1, List.length_set], fun j y e => ?_, fun j e => ?_⟩, cw⟩)
                · refine ext.2.1 j y ?_
                  by_cases ej : i = j
                  · subst ej
                    rw [List.getElem?_eq_getElem hi] at e
                    have h3 := hf
                    unfold free at h3
                    rw [List.getElem?_eq_getElem hi, decide_eq_true_eq] at h3
                    rw [h3] at e
                    cases e
                  · rw [List.getElem?_set_ne ej]
                    exact e
                · by_cases ej : i = j
                  · subst ej
                    exact ⟨x, ext.2.1 i x (by rw [List.getElem?_set_self hi]), hx⟩
                  · refine ext.2.2 j ?_
                    unfold free at e ⊢
                    rw [List.getElem?_set_ne ej]
                    exact e
              · refine ho_of (by simp [treeD, gN]; rfl) ?_
                simp
                refine ho_of (eqB_str (by decide +kernel) (by decide +kernel)) ?_
                rw [show decide (("tree" : Str) = ("world" : Str)) = false from by decide +kernel]
                simp
                have hp := congrArg List.length hd
                rw [List.length_append, List.length_cons] at hp
                refine ho_of (if_pos (by rw [hlen, lim_val]; omega)) ?_
                refine ⟨by show (ts ++ [t]).length = _; rw [List.length_append, hlen]; rfl, fun j y u e1 e2 => ?_⟩
                have e2 : (ts ++ [t])[j]? = some u := e2
                by_cases hj : j < pre.length
                · rw [List.getElem?_append_left hj] at e1
                  rw [List.getElem?_append_left (by omega)] at e2
                  exact hts j y u e1 e2
                · have hj2 : j = pre.length := by
                    have := (List.getElem?_eq_some_iff.mp e1).1
                    rw [List.length_append, List.length_singleton] at this
                    omega
                  subst hj2
                  rw [List.getElem?_concat_length] at e1
                  rw [← hlen, List.getElem?_concat_length] at e2
                  cases e1
                  cases e2
                  rw [show nfree st - 1 = nfree (st.set i (some x)) from by omega]
                  exact ht
          · rintro ρ ⟨ts, c7, c8, c9, rfl, hlen, hts⟩
            simp [-List.lookup_eq_none_iff, natO]
            have hnm : i < S.names.length := by omega
            refine ho_of (z := .str S.names[i]) (by rw [ixl_nat (by rw [strs_len]; exact hnm)]; simp [sL, List.getElem?_eq_getElem hnm]) ?_
            have hp := nfree_pos hf
            refine h _ _ (.inr ⟨splitD S.names[i] ts, rfl, ?_⟩)
            rw [show nfree st = nfree st - 1 + 1 from by omega]
            exact .split (List.getElem?_eq_getElem hnm) hf hlen hts
end
end DL

/-! S4: releases, knots, the settling object made. -/
namespace DL
open PySem PySem.Spec PyProof.Rows L2
structure Rls where
  lv : List Nat
  gs : List (KL × List Str)
abbrev Grp := KL × List Str
def grpD (g : Grp) : PyData := .tuple [kt g.1, .tuple (sL g.2)]
def Rls.d (e : Rls) : PyData := .tuple [.tuple (nats e.lv), .tuple (e.gs.map grpD)]
def LvOk : List PyData → List Nat → Prop
  | [], [] => True
  | L :: r, k :: s => k ≤ topN L ∧ LvOk r s
  | _, _ => False
theorem lv_len : ∀ {a : List PyData} {b : List Nat}, LvOk a b → a.length = b.length
  | [], [], _ => rfl
  | _ :: _, _ :: _, h => congrArg (· + 1) (lv_len h.2)
  | [], _ :: _, h => h.elim
  | _ :: _, [], h => h.elim
/-- publics at levels -/
def keyAt : List PyData → KL → List Nat → KL
  | L :: r, v :: s, k :: t => coK L v k :: keyAt r s t
  | _, _, _ => []
theorem keyAt_zip : ∀ (a : List PyData) (b : KL) (c : List Nat), keyAt a b c = (a.zip (b.zip c)).map fun p => coK p.1 p.2.1 p.2.2
  | [], _, _ => by simp [keyAt]
  | _ :: _, [], _ => by simp [keyAt]
  | _ :: _, _ :: _, [] => by simp [keyAt]
  | L :: r, v :: s, k :: t => by simp [keyAt, keyAt_zip r s t]
theorem zip_ok : ∀ {a : List PyData} {b : KL} {c : List Nat}, (∀ L ∈ a, L ∈ LadsX) → Pubs a b → LvOk a c → ∀ p ∈ a.zip (b.zip c), p.1 ∈ LadsX ∧ p.2.1 ∈ valsX p.1 ∧ p.2.2 ≤ topN p.1
  | [], _, _, _, _, _, p, hp => by simp at hp
  | _ :: _, [], _, _, h, _, _, _ => h.elim
  | _ :: _, _ :: _, [], _, _, h, _, _ => h.elim
  | L :: r, v :: s, k :: t, hL, hp, hl, p, hm => by
    rw [List.zip_cons_cons, List.zip_cons_cons] at hm
    rcases List.mem_cons.mp hm with z | z
    · subst z
      exact ⟨hL L List.mem_cons_self, hp.1, hl.1⟩
    · exact zip_ok (fun L hL' => hL L (List.mem_cons_of_mem _ hL')) hp.2 hl.2 p z
theorem keyAt_ok {a : List PyData} {b : KL} {c : List Nat} (hL : ∀ L ∈ a, L ∈ LadsX) (hp : Pubs a b) (hl : LvOk a c) : ∀ k ∈ keyAt a b c, okK k = true := by
  intro k hk
  rw [keyAt_zip] at hk
  obtain ⟨p, hm, rfl⟩ := List.mem_map.mp hk
  obtain ⟨h1, h2, h3⟩ := zip_ok hL hp hl p hm
  exact co_okK h1 h2 h3
theorem keyAt_len {a : List PyData} {b : KL} {c : List Nat} (hp : Pubs a b) (hl : LvOk a c) : (keyAt a b c).length = a.length := by
  have h1 := pubs_len hp
  have h2 := lv_len hl
  rw [keyAt_zip]
  simp
  omega
section
variable {Q : PyData → Env → Prop} {r : Roll} {mp mk : Nat}
theorem key_of_ok {lads : List PyData} {pubs : KL} {lv : List Nat} (h4 : lads.length ≤ 1000) (hL : ∀ L ∈ lads, L ∈ LadsX) (hp : Pubs lads pubs) (hl : LvOk lads lv) (h : ∀ ρ', Q (kt (keyAt lads pubs lv)) ρ') : Wr (f_key_of [.fr (.tuple lads), .fr (kt pubs), .fr (.tuple (nats lv))]) Q := by
  refine wr_fnN ?_
  have l1 := pubs_len hp
  have l2 := lv_len hl
  unfold b_key_of
  simp
  refine ho_of (zip3_def (x := lads) (y := keys pubs) (z := nats lv) rfl rfl rfl) ?_
  have e := zip3T_map (fun L : PyData => L) keyD (fun i : Nat => PyData.int (i : Nat)) lads pubs lv
  rw [List.map_id'] at e
  rw [show zip3T lads (keys pubs) (nats lv) = _ from e]
  refine ⟨by simp [lim_val]; omega, ?_⟩
  refine wr_map (fun p : PyData × Key × Nat => .tuple [p.1, keyD p.2.1, .int (p.2.2 : Nat)]) (fun p => keyD (coK p.1 p.2.1 p.2.2)) _ (by simp) (fun p hm => ?_) ?_
  · obtain ⟨h1, h2, h3⟩ := zip_ok hL hp hl p hm
    simp
    refine coarse_ok h1 h2 h3 fun ρ' => ?_
    simp
  · simp [backE]
    have := h
    rw [show kt (keyAt lads pubs lv) = .tuple ((lads.zip (pubs.zip lv)).map fun p => keyD (coK p.1 p.2.1 p.2.2)) from by
      unfold kt keys
      rw [keyAt_zip, List.map_map]
      rfl] at this
    exact this _
/-! ### knots -/
def Roll.keys (r : Roll) (lv : List Nat) : List KL := r.pers.map fun p => keyAt r.lads p.2 lv
def membs (ks : List KL) (key : KL) : List Nat := (ks.zipIdx.filter fun p => decide (p.1 = key)).map (·.2)
def knotsAt (r : Roll) (at' : Nat) (e : Rls) : List Knot := e.gs.map fun g => ⟨at', g.1, membs (r.keys e.lv) g.1, g.2⟩
def knotsOf (r : Roll) (rels : List Rls) : List Knot := rels.zipIdx.flatMap fun p => knotsAt r p.2 p.1
structure Rls.Ok (r : Roll) (e : Rls) : Prop where
  lv : LvOk r.lads e.lv
  gfew : e.gs.length ≤ 100
  keyOk : ∀ g ∈ e.gs, ∀ k ∈ g.1, okK k = true
  secOk : ∀ g ∈ e.gs, ∀ s ∈ g.2, okS s = true
  secFew : ∀ g ∈ e.gs, g.2.length ≤ 50
  sec0 : ∀ g ∈ e.gs, g.2 ≠ []
  secSrt : ∀ g ∈ e.gs, g.2.Pairwise (fun a b => sle a b = true)
structure RlssOk (r : Roll) (rels : List Rls) : Prop where
  each : ∀ e ∈ rels, e.Ok r
  few : rels.length ≤ 10
theorem mem_membs {ks : List KL} {key : KL} {i : Nat} : i ∈ membs ks key ↔ ks[i]? = some key := by
  unfold membs
  rw [List.mem_map]
  constructor
  · rintro ⟨⟨k, j⟩, hm, rfl⟩
    obtain ⟨h1, h2⟩ := List.mem_filter.mp hm
    have := List.mem_zipIdx_iff_getElem?.mp h1
    simp at h2 this
    rw [← h2]
    exact this
  · intro h
    exact ⟨(key, i), List.mem_filter.mpr ⟨List.mem_zipIdx_iff_getElem?.mpr h, by simp⟩, rfl⟩
theorem nd_membs {ks : List KL} {key : KL} : (membs ks key).Nodup := by
  unfold membs
  have h1 : (ks.zipIdx.map (·.2)).Nodup := by
    rw [List.zipIdx_map_snd]
    exact List.nodup_range' ..
  exact h1.sublist (List.Sublist.map _ List.filter_sublist)
theorem membs_len {ks : List KL} {key : KL} : (membs ks key).length ≤ ks.length := by
  unfold membs
  rw [List.length_map]
  refine Nat.le_trans (List.length_filter_le _ _) ?_
  rw [List.length_zipIdx]
  exact Nat.le_refl _
theorem knot_ok {rels : List Rls} (hr : r.Ok mp mk) (h8 : mp ≤ 8) (he : RlssOk r rels) : ∀ k ∈ knotsOf r rels, k.Ok r.pers.length := by
  intro k hk
  obtain ⟨⟨e, at'⟩, hm, hk⟩ := List.mem_flatMap.mp hk
  obtain ⟨g, hg, rfl⟩ := List.mem_map.mp hk
  have hin : e ∈ rels := List.mem_of_getElem? (List.mem_zipIdx_iff_getElem?.mp hm)
  have ok := he.each e hin
  have hl : (r.keys e.lv).length = r.pers.length := List.length_map _
  refine ⟨ok.keyOk g hg, fun i hi => ?_, nd_membs, ?_, ok.secOk g hg, ok.secFew g hg, ok.sec0 g hg, ok.secSrt g hg⟩
  · have := (List.getElem?_eq_some_iff.mp (mem_membs.mp hi)).1
    rw [hl] at this
    exact this
  · have := hr.perM
    exact Nat.le_trans membs_len (Nat.le_trans (Nat.le_of_eq hl) (by omega))
theorem knots_few {rels : List Rls} (he : RlssOk r rels) : (knotsOf r rels).length ≤ 1000 := by
  have gen : ∀ (l : List (Rls × Nat)), (∀ p ∈ l, p.1 ∈ rels) → (l.flatMap fun p => knotsAt r p.2 p.1).length ≤ 100 * l.length := by
    intro l
    induction l with
    | nil => intro _; simp
    | cons p t ih =>
      intro h
      have := ih fun q hq => h q (List.mem_cons_of_mem _ hq)
      have g := (he.each p.1 (h p List.mem_cons_self)).gfew
      rw [List.flatMap_cons, List.length_append, List.length_cons]
      have e : (knotsAt r p.2 p.1).length = p.1.gs.length := List.length_map _
      omega
  have := gen rels.zipIdx fun p hp => List.mem_of_getElem? (List.mem_zipIdx_iff_getElem?.mp hp)
  rw [List.length_zipIdx] at this
  have := he.few
  unfold knotsOf
  omega
theorem knots_of_ok {rels : List Rls} (hr : r.Ok mp mk) (h8 : mp ≤ 8) (he : RlssOk r rels) (h : ∀ ρ', Q (.list ((knotsOf r rels).map Knot.d)) ρ') : Wr (f_knots_of [.fr r.d, .fr (.list (rels.map Rls.d))]) Q := by
  refine wr_fnN ?_
  have hm := hr.perM
  have hfew := knots_few he
  unfold b_knots_of
  rw [show [Cell.fr r.d, Cell.fr (.list (rels.map Rls.d))] ++ List.replicate 15 .no = [.fr r.d, .fr (.list (rels.map Rls.d)), .no, .no, .no, .no, .no, .no, .no, .no, .no, .no, .no, .no, .no, .no, .no] from rfl]
  simp only [ws_seq, ws_asg, we_var, List.getElem?_cons_zero, atVar_fr, wr_ok]
  refine ho_of (by unfold Roll.d; simp [List.set]; exact rfl) ?_
  simp
  rw [show enumD 0 (rels.map Rls.d) = (rels.zipIdx).map fun p => .tuple [.int (p.2 : Nat), p.1.d] from enumD_map Rls.d rels]
  refine wf_loop (fun p : Rls × Nat => .tuple [.int (p.2 : Nat), p.1.d]) (fun pre ρ => ∃ c6 c7 c8 c9 c10 c11 c12, ρ = [.fr r.d, .fr (.list (rels.map Rls.d)), .fr (.tuple r.lads), .fr (.tuple (r.pers.map perD)), .fr (.tuple (sL r.kinds)), .ol false ((pre.flatMap fun p => knotsAt r p.2 p.1).map Knot.d), c6, c7, c8, c9, c10, c11, c12, .no, .no, .no, .no]) rels.zipIdx _ ⟨_, _, _, _, _, _, _, rfl⟩ ?_ ?_
  · rintro pre ⟨e, at'⟩ post ρ hd ⟨c6, c7, c8, c9, c10, c11, c12, rfl⟩
    have hin : e ∈ rels := List.mem_of_getElem? (List.mem_zipIdx_iff_getElem?.mp (show (e, at') ∈ rels.zipIdx by rw [← hd]; simp))
    have ok := he.each e hin
    have hpl : ((pre.flatMap fun p => knotsAt r p.2 p.1)).length + e.gs.length ≤ 1000 := by
      have : knotsOf r rels = (pre.flatMap fun p => knotsAt r p.2 p.1) ++ (knotsAt r at' e ++ post.flatMap fun p => knotsAt r p.2 p.1) := by
        unfold knotsOf
        rw [← hd, List.flatMap_append, List.flatMap_cons]
      rw [this, List.length_append, List.length_append] at hfew
      have e2 : (knotsAt r at' e).length = e.gs.length := List.length_map _
      omega
    refine ho_of (by unfold Rls.d; simp [List.set]; exact rfl) ?_
    simp
    refine ⟨by rw [lim_val]; omega, ?_⟩
    refine wr_map perD (fun p => kt (keyAt r.lads p.2 e.lv)) r.pers rfl (fun q hq => ?_) ?_
    · simp [perD]
      refine key_of_ok (by have := hr.lad4; omega) hr.lads (hr.pubs q hq) ok.lv fun ρ' => ?_
      simp
    simp [backE]
    have ek : List.map (fun p : Pers => kt (keyAt r.lads p.2 e.lv)) r.pers = (r.keys e.lv).map kt := by
      unfold Roll.keys
      rw [List.map_map]
      rfl
    rw [ek]
    refine wf_loop grpD (fun pg ρ => ∃ c10 c11 c12, ρ = [.fr r.d, .fr (.list (rels.map Rls.d)), .fr (.tuple r.lads), .fr (.tuple (r.pers.map perD)), .fr (.tuple (sL r.kinds)), .ol false ((pre.flatMap (fun p : Rls × Nat => knotsAt r p.2 p.1) ++ pg.map fun g : Grp => (⟨at', g.1, membs (r.keys e.lv) g.1, g.2⟩ : Knot)).map Knot.d), .fr (.int (at' : Nat)), .fr (.tuple (nats e.lv)), .fr (.tuple (e.gs.map grpD)), .fr (.list ((r.keys e.lv).map kt)), c10, c11, c12, .no, .no, .no, .no]) e.gs _ ⟨_, _, _, by rw [List.map_nil, List.append_nil]; rfl⟩ ?_ ?_
    · rintro pg g postg ρ hdg ⟨c10, c11, c12, rfl⟩
      have hg : g ∈ e.gs := by rw [← hdg]; simp
      refine ho_of (by unfold grpD; simp [List.set]; exact rfl) ?_
      simp
      rw [show enumD 0 ((r.keys e.lv).map kt) = ((r.keys e.lv).zipIdx).map fun p => .tuple [.int (p.2 : Nat), kt p.1] from enumD_map kt _]
      have hkl : (r.keys e.lv).length = r.pers.length := List.length_map _
      refine ⟨by rw [List.length_map, List.length_zipIdx, hkl, lim_val]; omega, ?_⟩
      refine wr_filter (fun p : KL × Nat => .tuple [.int (p.2 : Nat), kt p.1]) (fun p => decide (p.1 = g.1)) (fun p => .int (p.2 : Nat)) _ rfl (fun q hq => ?_) ?_
      · have hq2 := List.mem_of_getElem? (List.mem_zipIdx_iff_getElem?.mp (show (q.1, q.2) ∈ (r.keys e.lv).zipIdx from hq))
        obtain ⟨pr, hpr, epr⟩ := List.mem_map.mp hq2
        have okq : ∀ k ∈ q.1, okK k = true := by
          rw [← epr]
          exact keyAt_ok hr.lads (hr.pubs pr hpr) ok.lv
        simp
        refine ho_of (eqB_kt okq (ok.keyOk g hg)) ?_
        simp
      · simp [backE]
        have em : List.map (fun p : KL × Nat => PyData.int (p.2 : Nat)) (List.filter (fun p => decide (p.1 = g.1)) (r.keys e.lv).zipIdx) = nats (membs (r.keys e.lv) g.1) := by
          unfold nats membs
          rw [List.map_map]
          rfl
        rw [em]
        have hpg := congrArg List.length hdg
        rw [List.length_append, List.length_cons] at hpg
        refine ho_of (if_pos (by rw [lim_val]; simp at hpl ⊢; omega)) ?_
        simp
        exact ⟨rfl, fun a b _ => rfl⟩
    · rintro ρ ⟨c10, c11, c12, rfl⟩
      rw [List.map_append]
      exact ⟨_, _, _, _, c10, c11, c12, rfl⟩
  · rintro ρ ⟨c6, c7, c8, c9, c10, c11, c12, rfl⟩
    simp
    exact h _
end
end DL

/-! S5: the settling object made; worlds that fit; a world or a tree. -/
namespace DL
open PySem PySem.Spec PyProof.Rows L2
@[simp] theorem fm_ins {c : Nat} {fs : List (Str × PyData)} {r : List AV} : (AV.ins c fs :: r).filterMap AV.key = lim :: r.filterMap AV.key := rfl
def sgOf (r : Roll) (rels : List Rls) : Sg := ⟨r.pers.map (·.1), r.kinds, knotsOf r rels⟩
theorem sg_ok {r : Roll} {mp mk : Nat} {rels : List Rls} (hr : r.Ok mp mk) (h8 : mp ≤ 8) (h6 : mk ≤ 6) (he : RlssOk r rels) : (sgOf r rels).Ok := by
  refine ⟨hr.nd, fun s hs => ?_, by show (r.pers.map (·.1)).length ≤ 8; rw [List.length_map]; have := hr.perM; omega, fun s hs => nameS_ok (hr.kindOk s hs), hr.knd, by show r.kinds.length ≤ 6; have := hr.kinM; omega, ?_, hr.ksrt, ?_, knots_few he⟩
  · obtain ⟨p, hp, rfl⟩ := List.mem_map.mp hs
    exact nameS_ok (hr.nameOk p hp)
  · show r.kinds ≠ []
    intro e
    have := hr.kin0
    rw [e] at this
    exact absurd this (by simp)
  · intro k hk
    show k.Ok (r.pers.map (·.1)).length
    rw [List.length_map]
    exact knot_ok hr h8 he k hk
section
variable {Q : PyData → Env → Prop} {r : Roll} {mp mk : Nat} {rels : List Rls}
theorem init_ok (hr : r.Ok mp mk) (h8 : mp ≤ 8) (he : RlssOk r rels) (h : ∀ ρ', Q .none (.oi true 0 (sgOf r rels).fs :: ρ')) : Wr (f_Settling_init [.oi true 0 [], .fr r.d, .fr (.list (rels.map Rls.d))]) Q := by
  refine wr_fnN ?_
  have hm := hr.perM
  unfold b_Settling_init
  simp
  refine ho_of (z := .tuple (r.pers.map perD)) rfl ?_
  simp
  refine ⟨by rw [lim_val]; omega, ?_⟩
  refine wr_map perD (fun p => .str p.1) r.pers rfl (fun q hq => by simp [perD]) ?_
  simp [backE]
  refine ho_of (z := .tuple (sL r.kinds)) rfl ?_
  refine ⟨by simp [putFD], ?_⟩
  refine knots_of_ok hr h8 he fun ρ' => ?_
  refine ⟨(show (2 : Nat) < 1000 by decide), ?_⟩
  have e : sL (r.pers.map (·.1)) = r.pers.map fun p => PyData.str p.1 := by
    unfold sL
    rw [List.map_map]
    rfl
  have := h [.fr r.d, .fr (.list (rels.map Rls.d)), .no, .no]
  unfold sgOf Sg.fs at this
  simp only at this
  rw [e] at this
  exact this
/-! ### worlds that fit -/
def FitW (S : Sg) (w : List Str) : Prop := w.length = S.names.length ∧ (∀ x ∈ w, x ∈ S.kinds) ∧ Calm S (w.map some)
def ExtW (st : St) (w : List Str) : Prop := ∀ (i : Nat) (x : Str), st[i]? = some (some x) → w[i]? = some x
theorem free_full {k : Knot} {n : Nat} {w : List Str} (hk : k.Ok n) (hl : w.length = n) : k.free (w.map some) = 0 := by
  unfold Knot.free
  rw [List.length_eq_zero_iff, List.filter_eq_nil_iff]
  intro i hi
  have := hk.memLt i hi
  simp [free, List.getElem?_map, List.getElem?_eq_getElem (show i < w.length by omega)]
theorem having_le {k : Knot} {n : Nat} {st : St} {w : List Str} {x : Str} (hk : k.Ok n) (hl : w.length = n) (hs : st.length = n) (e : ExtW st w) : k.having st x ≤ k.having (w.map some) x ∧ k.having (w.map some) x ≤ k.having st x + k.free st := by
  unfold Knot.having Knot.free
  have key : ∀ m : List Nat, (∀ i ∈ m, i < n) → (m.filter (has st x)).length ≤ (m.filter (has (w.map some) x)).length ∧ (m.filter (has (w.map some) x)).length ≤ (m.filter (has st x)).length + (m.filter (free st)).length := by
    intro m
    induction m with
    | nil => intro _; simp
    | cons i t ih =>
      intro h
      obtain ⟨a, b⟩ := ih fun j hj => h j (List.mem_cons_of_mem _ hj)
      have hi := h i List.mem_cons_self
      have hiw : i < w.length := by omega
      have his : i < st.length := by omega
      have ew : (w.map some)[i]? = some (some w[i]) := by simp [List.getElem?_eq_getElem hiw]
      rw [List.filter_cons, List.filter_cons, List.filter_cons]
      cases eo : st[i] with
      | none =>
        have e1 : has st x i = false := by simp [has, List.getElem?_eq_getElem his, eo]
        have e2 : free st i = true := by simp [free, List.getElem?_eq_getElem his, eo]
        rw [e1, e2]
        cases has (w.map some) x i
        · simp only [Bool.false_eq_true, if_false, if_true, List.length_cons]; omega
        · simp only [Bool.false_eq_true, if_false, if_true, List.length_cons]; omega
      | some y =>
        have e2 : free st i = false := by simp [free, List.getElem?_eq_getElem his, eo]
        have ey := e i y (by rw [List.getElem?_eq_getElem his, eo])
        have e1 : has st x i = has (w.map some) x i := by
          simp [has, List.getElem?_eq_getElem his, eo, ey]
        rw [e1, e2]
        cases has (w.map some) x i
        · simp only [Bool.false_eq_true, if_false]; omega
        · simp only [Bool.false_eq_true, if_false, if_true, List.length_cons]; omega
  exact key k.mem hk.memLt
/-- a tree that holds shows that there is no such world -/
theorem hold_none {S : Sg} (hS : S.Ok) {d : Nat} {st : St} {t : PyData} (h : Hold S d st t) : st.length = S.names.length → ∀ w, FitW S w → ExtW st w → False := by
  induction h with
  | @clash d st k x hk hx hc =>
    intro hl w fw e
    have ok := hS.knots k hk
    obtain ⟨b1, b2⟩ := having_le (x := x) ok fw.1 hl e
    unfold Knot.clash at hc
    rw [decide_eq_true_eq] at hc
    by_cases hu : x ∈ uni k.sec S.kinds
    · have := fw.2.2 k hk x hu
      unfold Knot.clash at this
      rw [decide_eq_false_iff_not] at this
      have f0 := free_full ok fw.1
      omega
    · have hw : k.wanted x = 0 := by
        unfold Knot.wanted
        rw [List.length_eq_zero_iff, List.filter_eq_nil_iff]
        intro y hy
        simp
        exact fun e => hu (mem_uni.mpr (.inl (e ▸ hy)))
      have hh : k.having (w.map some) x = 0 := by
        unfold Knot.having
        rw [List.length_eq_zero_iff, List.filter_eq_nil_iff]
        intro i hi
        have hi2 : i < w.length := by rw [fw.1]; exact ok.memLt i hi
        simp [has, List.getElem?_eq_getElem hi2]
        exact fun e => hu (mem_uni.mpr (.inr (e ▸ fw.2.1 _ (List.getElem_mem hi2))))
      omega
  | @split d i st nm ts hn hf hlen hts ih =>
    intro hl w fw e
    have hi := free_lt hf
    have hiw : i < w.length := by rw [fw.1]; omega
    obtain ⟨j, hj, ej⟩ := List.mem_iff_getElem.mp (fw.2.1 _ (List.getElem_mem hiw))
    refine ih j w[i] ts[j] (by rw [List.getElem?_eq_getElem hj, ej]) (List.getElem?_eq_getElem (by omega)) (by rw [List.length_set]; exact hl) w fw fun m y em => ?_
    by_cases hm : i = m
    · subst hm
      rw [List.getElem?_set_self hi] at em
      cases em
      exact List.getElem?_eq_getElem hiw
    · rw [List.getElem?_set_ne hm] at em
      exact e m y em
/-- nobody settled but one -/
def st1 (S : Sg) (i : Nat) (x : Str) : St := (S.names.map fun _ => none).set i (some x)
theorem st1_len {S : Sg} {i : Nat} {x : Str} : (st1 S i x).length = S.names.length := by simp [st1]
theorem st1_get {S : Sg} {i j : Nat} {x y : Str} (h : (st1 S i x)[j]? = some (some y)) : j = i ∧ y = x := by
  unfold st1 at h
  by_cases e : i = j
  · subst e
    by_cases hi : i < S.names.length
    · rw [List.getElem?_set_self (by simpa using hi)] at h
      cases h
      exact ⟨rfl, rfl⟩
    · rw [List.getElem?_eq_none (by simpa using hi)] at h
      cases h
  · rw [List.getElem?_set_ne e, List.getElem?_map] at h
    cases h2 : S.names[j]? with
    | none => rw [h2] at h; cases h
    | some z => rw [h2] at h; cases h
theorem st1_ext {S : Sg} {i : Nat} {x : Str} {w : List Str} : ExtW (st1 S i x) w ↔ (i < S.names.length → w[i]? = some x) := by
  constructor
  · intro h hi
    refine h i x ?_
    unfold st1
    rw [List.getElem?_set_self (by simpa using hi)]
  · intro h j y hj
    obtain ⟨rfl, rfl⟩ := st1_get hj
    refine h ?_
    have := (List.getElem?_eq_some_iff.mp hj).1
    rw [st1_len] at this
    exact this
theorem st1_ok {S : Sg} (hS : S.Ok) {i : Nat} {x : Str} (hx : okS x = true) : StOk (st1 S i x) := fun o ho s e => by
  unfold st1 at ho
  rcases List.mem_or_eq_of_mem_set ho with z | z
  · obtain ⟨_, _, rfl⟩ := List.mem_map.mp z
    cases e
  · rw [z] at e
    cases e
    exact hx
theorem grown_world {S : Sg} {i : Nat} {x : Str} {w : List Str} (hi : i < S.names.length) (hx : x ∈ S.kinds) (e : Ext S (st1 S i x) w) (c : Calm S (w.map some)) : FitW S w ∧ w[i]? = some x := by
  have hxi : w[i]? = some x := e.2.1 i x (by unfold st1; rw [List.getElem?_set_self (by simpa using hi)])
  refine ⟨⟨by rw [e.1, st1_len], fun y hy => ?_, c⟩, hxi⟩
  obtain ⟨j, hj, rfl⟩ := List.mem_iff_getElem.mp hy
  by_cases ej : i = j
  · subst ej
    rw [List.getElem?_eq_getElem hj] at hxi
    cases hxi
    exact hx
  · have hj2 : j < S.names.length := by rw [e.1, st1_len] at hj; exact hj
    obtain ⟨y, ey, hy2⟩ := e.2.2 j (by
      unfold st1 free
      rw [List.getElem?_set_ne ej, List.getElem?_map, List.getElem?_eq_getElem hj2]
      rfl)
    rw [List.getElem?_eq_getElem hj] at ey
    cases ey
    exact hy2
theorem nfree_le (st : St) : nfree st ≤ st.length := List.length_filter_le _ _
/-- what is told of a person and a secret: a world, or a tree -/
def Told (S : Sg) (i : Nat) (x : Str) (d : PyData) : Prop := (∃ w, d = worldD w ∧ FitW S w ∧ w[i]? = some x) ∨ ∃ t, d = treeD t ∧ Hold S 8 (st1 S i x) t
theorem Hold.mono {S : Sg} {d d' : Nat} {st : St} {t : PyData} (h : Hold S d st t) : d ≤ d' → Hold S d' st t := by
  intro hd
  induction h generalizing d' with
  | clash a b c => exact .clash a b c
  | @split d i st nm ts a b c e ih =>
    obtain ⟨m, rfl⟩ : ∃ m, d' = m + 1 := ⟨d' - 1, by omega⟩
    exact .split a b c fun j x t h1 h2 => ih j x t h1 h2 (by omega)
theorem won_ok {S : Sg} {p : Bool} (hS : S.Ok) {i : Nat} {x : Str} (hi : i < S.names.length) (hx : x ∈ S.kinds) (h : ∀ d ρ', Told S i x d → Q d (.oi p 0 S.fs :: ρ')) : Wr (f_Settling_world_or_none [.oi p 0 S.fs, .fr (.list (sett (st1 S i x)))]) Q := by
  refine wr_fnN ?_
  unfold b_Settling_world_or_none
  have n8 := hS.n8
  have nf := nfree_le (st1 S i x)
  rw [st1_len] at nf
  simp [-List.lookup_eq_none_iff]
  refine grown_ok hS 20 true (st1 S i x) S.knots (by omega) (st1_ok hS (hS.kindOk x hx)) st1_len (fun k hk => hk) (fun k hk => .inl hk) fun d ρ' hg => ?_
  simp
  refine h d _ ?_
  rcases hg with ⟨w, rfl, e, c⟩ | ⟨t, rfl, ht⟩
  · exact .inl ⟨w, rfl, grown_world hi hx e c⟩
  · exact .inr ⟨t, rfl, ht.mono (by omega)⟩
end
end DL

/-! S6: who may have what. -/
namespace DL
open PySem PySem.Spec PyProof.Rows L2
/-! ### dicts of own lists, plainly -/
def dlD (names : List Str) (fl : List (List Str)) : List (PyData × List PyData) := (names.zip fl).map fun p => (.str p.1, sL p.2)
theorem eqv_str {a b : Str} : PyData.eqv (.str a) (.str b) = decide (a = b) := by
  simp only [PyData.eqv]
  by_cases h : a = b <;> simp [h]
theorem look_dl : ∀ {names : List Str} {fl : List (List Str)} {i : Nat} {nm : Str} {l : List Str}, names.Nodup → names[i]? = some nm → fl[i]? = some l → lookDl (dlD names fl) (.str nm) = some (sL l)
  | [], _, _, _, _, _, h, _ => by simp at h
  | _ :: _, [], _, _, _, _, _, h => by simp at h
  | a :: names, f :: fl, 0, nm, l, _, h1, h2 => by
    simp at h1 h2
    subst h1 h2
    unfold lookDl dlD
    rw [List.zip_cons_cons, List.map_cons, List.find?_cons_of_pos (by rw [eqv_str]; simp)]
    rfl
  | a :: names, f :: fl, i + 1, nm, l, nd, h1, h2 => by
    have n1 := List.nodup_cons.mp nd
    have ih := look_dl (i := i) n1.2 (by simpa using h1) (by simpa using h2)
    unfold lookDl dlD at ih ⊢
    rw [List.zip_cons_cons, List.map_cons, List.find?_cons_of_neg, ih]
    rw [eqv_str]
    simp
    exact fun e => n1.1 (e ▸ List.mem_of_getElem? (by simpa using h1))
theorem put_dl : ∀ {names : List Str} {fl : List (List Str)} {i : Nat} {nm : Str} {l : List Str}, names.Nodup → names[i]? = some nm → i < fl.length → putDl (dlD names fl) (.str nm) (sL l) = dlD names (fl.set i l)
  | [], _, _, _, _, _, h, _ => by simp at h
  | _ :: _, [], _, _, _, _, _, h => by simp at h
  | a :: names, f :: fl, 0, nm, l, _, h1, h2 => by
    simp at h1
    subst h1
    unfold putDl dlD
    rw [List.zip_cons_cons, List.map_cons, List.findIdx?_cons]
    simp [eqv_str]
  | a :: names, f :: fl, i + 1, nm, l, nd, h1, h2 => by
    have n1 := List.nodup_cons.mp nd
    have ih := put_dl (fl := fl) (l := l) (i := i) n1.2 (by simpa using h1) (by simpa using h2)
    have ne : ¬ a = nm := fun e => n1.1 (e ▸ List.mem_of_getElem? (by simpa using h1))
    unfold putDl dlD at ih ⊢
    rw [List.set_cons_succ, List.zip_cons_cons, List.map_cons, List.zip_cons_cons, List.map_cons, List.findIdx?_cons]
    rw [show PyData.eqv (.str a) (.str nm) = false from by rw [eqv_str]; simp [ne]]
    simp only [Bool.false_eq_true, if_false]
    cases e : List.findIdx? (fun p : PyData × List PyData => PyData.eqv p.1 (.str nm)) (List.map (fun p : Str × List Str => (PyData.str p.1, sL p.2)) (names.zip fl)) with
    | none =>
      rw [e] at ih
      simp only [Option.map_none]
      rw [← ih]
    | some j =>
      rw [e] at ih
      simp only [Option.map_some]
      rw [List.set_cons_succ, ← ih]
theorem ninB_strs {x : Str} {l : List Str} (hx : okS x = true) (hl : ∀ y ∈ l, okS y = true) : ninB (.str x) (.list (sL l)) = some (!decide (x ∈ l)) := by
  have e : inB (.str x) (.list (sL l)) = some ((sL l).any fun z => PyData.eqv z (.str x)) := if_pos ⟨shp_str hx, shp_list hl⟩
  unfold ninB
  rw [e]
  show some (!_) = _
  congr 2
  clear e hl
  induction l with
  | nil => rfl
  | cons y r ih =>
    show (PyData.eqv (.str y) (.str x) || (sL r).any _) = _
    rw [ih, eqv_str]
    by_cases h : x = y
    · simp [h]
    · have : ¬ y = x := fun e => h e.symm
      simp [h, this]
section
variable {c0 : Cell} {ρ : Env} {Q : PyData → Env → Prop} {QB : Bool → Env → Prop}
theorem pVar_fr {i : Nat} {ρ : Env} {d : PyData} (h : ρ[i]? = some (.fr d)) : pVar i ρ = some d := by
  unfold pVar
  rw [h]
theorem wc_inDl {g : PyData → PyData → Option Bool} {fa fk : Env → Option PyData} {i : Nat} {d : PyData} {k : Str} {kvs : List (PyData × List PyData)} {ds : List PyData} {z : Bool} {ρ : Env} (h1 : fa ρ = some d) (h2 : ρ[i]? = some (.dl kvs)) (h3 : fk ρ = some (.str k)) (h4 : lookDl kvs (.str k) = some ds) (h5 : g d (.list ds) = some z) (q : QB z ρ) : Wr (cInDl g fa i fk ρ) QB := by
  unfold cInDl
  rw [h1, h2, h3]
  simp only [h4, h5]
  exact q
theorem wc_nilDl {fk : Env → Option PyData} {i : Nat} {k : Str} {kvs : List (PyData × List PyData)} {ds : List PyData} {ρ : Env} (h2 : ρ[i]? = some (.dl kvs)) (h3 : fk ρ = some (.str k)) (h4 : lookDl kvs (.str k) = some ds) (h5 : shp (.list ds) = true) : cNilDl i fk ρ = .ok ds.isEmpty ρ := by
  unfold cNilDl
  rw [h2, h3]
  simp only [h4]
  rw [if_pos h5]
  rfl
theorem we_appDl {fe fk : Env → Option PyData} {i : Nat} {d : PyData} {k : Str} {kvs : List (PyData × List PyData)} {ds : List PyData} {ρ : Env} (h1 : fe ρ = some d) (h2 : ρ[i]? = some (.dl kvs)) (h3 : fk ρ = some (.str k)) (h4 : lookDl kvs (.str k) = some ds) (h5 : ds.length < lim) (q : Q .none (ρ.set i (.dl (putDl kvs (.str k) (ds ++ [d]))))) : Wr (eAppDl i fk fe ρ) Q := by
  unfold eAppDl
  rw [h1, h2, h3]
  simp only [h4]
  rw [if_pos h5]
  exact q
theorem we_sortDl {fk : Env → Option PyData} {i : Nat} {k : Str} {kvs : List (PyData × List PyData)} {ds : List PyData} {z : PyData} {ρ : Env} (h2 : ρ[i]? = some (.dl kvs)) (h3 : fk ρ = some (.str k)) (h4 : lookDl kvs (.str k) = some ds) (h5 : sortL ds = some z) (q : Q z ρ) : Wr (eSortDl i fk ρ) Q := by
  unfold eSortDl
  rw [h2, h3]
  simp only [h4, h5]
  exact q
end
theorem dl_names {g : TgF} {tk : Env → R PyData} {vs : List Nat} {ρ : Env} (hw : wipeE ρ vs = ρ) : ∀ (names : List Str) (pre : List Str), (pre ++ names).Nodup → (∀ x ∈ names, Ho (g (.str x) ρ) fun ρ2 => Wr (tk ρ2) fun y ρ3 => y = .str x ∧ wipeE ρ3 vs = ρ) →
    dlGo g tk vs (sL names) (pre.map fun x => (.str x, [])) ρ = .ok ((pre ++ names).map fun x => (.str x, [])) ρ
  | [], pre, _, _ => by simp [dlGo]
  | x :: r, pre, nd, h => by
    obtain ⟨ρ2, e2, h2⟩ := h x List.mem_cons_self
    obtain ⟨y, ρ3, e3, rfl, h3⟩ := h2.get
    have hn : x ∉ pre := fun hx => by
      have := (List.nodup_append.mp nd).2.2 x hx x List.mem_cons_self
      exact this rfl
    show dlGo g tk vs (.str x :: sL r) _ ρ = _
    unfold dlGo
    rw [hw, e2]
    simp only [e3]
    rw [if_pos]
    · rw [h3]
      have ih := dl_names hw r (pre ++ [x]) (by rw [List.append_assoc]; exact nd) fun z hz => h z (List.mem_cons_of_mem _ hz)
      rw [List.map_append] at ih
      rw [show List.map (fun x => ((PyData.str x, []) : PyData × List PyData)) pre ++ [(PyData.str x, [])] = List.map (fun x => (PyData.str x, [])) pre ++ List.map (fun x => (PyData.str x, [])) [x] from rfl, ih, List.append_assoc]
      rfl
    · refine ⟨rfl, ?_⟩
      rw [List.any_eq_false]
      intro p hp
      obtain ⟨z, hz, rfl⟩ := List.mem_map.mp hp
      rw [eqv_str]
      simp
      exact fun e => hn (e ▸ hz)
theorem dlD_nil (names : List Str) : (names.map fun x => ((PyData.str x, []) : PyData × List PyData)) = dlD names (names.map fun _ => []) := by
  unfold dlD
  induction names with
  | nil => rfl
  | cons x r ih => rw [List.map_cons, List.map_cons, List.zip_cons_cons, List.map_cons, ih]; rfl
/-! ### what is known so far -/
structure GoodF (S : Sg) (fl : List (List Str)) : Prop where
  len : fl.length = S.names.length
  nd : ∀ l ∈ fl, l.Nodup
  fit : ∀ (j : Nat) (l : List Str), fl[j]? = some l → ∀ x ∈ l, ∃ w, FitW S w ∧ w[j]? = some x
theorem GoodF.kinds {S : Sg} {fl : List (List Str)} (g : GoodF S fl) : ∀ l ∈ fl, ∀ x ∈ l, x ∈ S.kinds := fun l hl x hx => by
  obtain ⟨j, hj, e⟩ := List.mem_iff_getElem.mp hl
  obtain ⟨w, fw, ew⟩ := g.fit j l (by rw [List.getElem?_eq_getElem hj, e]) x hx
  exact fw.2.1 x (List.mem_of_getElem? ew)
theorem GoodF.few {S : Sg} {fl : List (List Str)} (g : GoodF S fl) : ∀ l ∈ fl, l.length ≤ S.kinds.length := fun l hl =>
  (g.nd l hl).length_le_of_subset fun x hx => g.kinds l hl x hx
/-- fl knows of the person i and the secret x -/
def Known (S : Sg) (fl : List (List Str)) (i : Nat) (x : Str) : Prop := (∃ l, fl[i]? = some l ∧ x ∈ l) ∨ ∀ w, FitW S w → w[i]? ≠ some x
def More (fl fl' : List (List Str)) : Prop := ∀ (j : Nat) (l : List Str), fl[j]? = some l → ∃ l', fl'[j]? = some l' ∧ ∀ x ∈ l, x ∈ l'
theorem More.refl (fl : List (List Str)) : More fl fl := fun j l h => ⟨l, h, fun x hx => hx⟩
theorem More.trans {a b c : List (List Str)} (h : More a b) (k : More b c) : More a c := fun j l e => by
  obtain ⟨l', e', s'⟩ := h j l e
  obtain ⟨l'', e'', s''⟩ := k j l' e'
  exact ⟨l'', e'', fun x hx => s'' x (s' x hx)⟩
theorem Known.more {S : Sg} {fl fl' : List (List Str)} {i : Nat} {x : Str} (h : Known S fl i x) (m : More fl fl') : Known S fl' i x := by
  rcases h with ⟨l, e, hx⟩ | h
  · obtain ⟨l', e', s⟩ := m i l e
    exact .inl ⟨l', e', s x hx⟩
  · exact .inr h
theorem goodF_set {S : Sg} {fl : List (List Str)} {i : Nat} {l : List Str} {x : Str} {w : List Str} (g : GoodF S fl) (e : fl[i]? = some l) (hx : x ∉ l) (fw : FitW S w) (ew : w[i]? = some x) : GoodF S (fl.set i (l ++ [x])) ∧ More fl (fl.set i (l ++ [x])) := by
  have hi := (List.getElem?_eq_some_iff.mp e).1
  refine ⟨⟨by rw [List.length_set, g.len], fun m hm => ?_, fun j m em y hy => ?_⟩, fun j m em => ?_⟩
  · rcases List.mem_or_eq_of_mem_set hm with z | z
    · exact g.nd m z
    · rw [z, List.nodup_append]
      refine ⟨g.nd l (List.mem_of_getElem? e), by simp, fun a ha b hb e => ?_⟩
      rw [List.mem_singleton] at hb
      rw [e, hb] at ha
      exact hx ha
  · by_cases ej : i = j
    · subst ej
      rw [List.getElem?_set_self hi] at em
      cases em
      rcases List.mem_append.mp hy with z | z
      · exact g.fit i l e y z
      · rw [List.mem_singleton.mp z]
        exact ⟨w, fw, ew⟩
    · rw [List.getElem?_set_ne ej] at em
      exact g.fit j m em y hy
  · by_cases ej : i = j
    · subst ej
      rw [e] at em
      cases em
      exact ⟨_, List.getElem?_set_self hi, fun y hy => List.mem_append_left _ hy⟩
    · exact ⟨m, by rw [List.getElem?_set_ne ej]; exact em, fun y hy => hy⟩
end DL

/-! S7: may_have. -/
namespace DL
open PySem PySem.Spec PyProof.Rows L2
theorem seq_of {α : Type} {A B : Env → FlR α} {ρ : Env} {N : Env → Prop} (h : Wf (A ρ) N (fun _ _ => False)) : ∃ ρ1, N ρ1 ∧ sSeq A B ρ = B ρ1 := by
  unfold sSeq
  cases e : A ρ with
  | nx ρ1 => rw [e] at h; exact ⟨ρ1, h, rfl⟩
  | rt _ _ => rw [e] at h; exact h.elim
  | er _ _ => rw [e] at h; exact h.elim
  | bad => rw [e] at h; exact h.elim
  | bk _ => rw [e] at h; exact h.elim
  | ct _ => rw [e] at h; exact h.elim
/-- the answer: for each person the secrets -/
def mhD (names : List Str) (res : List (List Str)) : PyData := .dict ((names.zip res).map fun p => (.str p.1, .list (sL p.2)))
structure MH (S : Sg) (res : List (List Str)) : Prop where
  len : res.length = S.names.length
  nd : ∀ l ∈ res, l.Nodup
  srt : ∀ l ∈ res, l.Pairwise (fun a b => sle a b = true)
  iff : ∀ (j : Nat) (l : List Str), res[j]? = some l → ∀ x, x ∈ l ↔ ∃ w, FitW S w ∧ w[j]? = some x
def mhInner : Env → FlR PyData :=
    (sFor (iArgs zip2 (aCons (eVar 3) (aCons (eVar 10) aNil))) (gT 2 (gsCons (gN 11) (gsCons (gN 12) gsNil)))
    (sIf (cInDl ninB (pVar 12) 4 (pVar 11))
    (sDo (eAppDl 4 (pVar 11) (pVar 12)))
    sNil))
def mhBody : Env → FlR PyData :=
    (sIf (cInDl ninB (pVar 7) 4 (pVar 6))
    (sSeq (sSet 8 (eMeth 0 "settled_more" 4 (f_Settling_settled_more) 2 (avCons (eMeth 0 "nobody" 1 (f_Settling_nobody) 2 avNil) (avCons (eVar 5) (avCons (eVar 7) avNil)))))
    (sSeq (sAsg (eMeth 0 "world_or_none" 2 (f_Settling_world_or_none) 2 (avCons (eVar 8) avNil)) (gT 2 (gsCons (gN 9) (gsCons (gN 10) gsNil))))
    (sIf (cCmp eqB (eVar 9) (eC (.str "world")))
    mhInner
    sNil)))
    sNil)
def mhLoop : Env → FlR PyData :=
    (sFor (iArgs enum1 (aCons (eVar 3) aNil)) (gT 2 (gsCons (gN 5) (gsCons (gN 6) gsNil)))
    (sFor (iOf iterD (eOp ixD (eVar 0) (eC (.int 2)))) (gN 7)
    mhBody))
section
variable {S : Sg} {rd rl : PyData}
/-- the names while the loops run -/
def mhEnv (S : Sg) (rd rl : PyData) (fl : List (List Str)) (c5 c6 c7 c8 c9 c10 c11 c12 : Cell) : Env := [.fr rd, .fr rl, .oi false 0 S.fs, .fr (.list (sL S.names)), .dl (dlD S.names fl), c5, c6, c7, c8, c9, c10, c11, c12, .no]
theorem okL_of_good {fl : List (List Str)} (hS : S.Ok) (g : GoodF S fl) {l : List Str} (hl : l ∈ fl) : ∀ y ∈ l, okS y = true := fun y hy => hS.kindOk y (g.kinds l hl y hy)
theorem inner_ok (hS : S.Ok) {fl : List (List Str)} {w : List Str} {c5 c6 c7 c8 c9 c11 c12 : Cell} {N : Env → Prop} {T : PyData → Env → Prop} (g : GoodF S fl) (fw : FitW S w)
    (h : ∀ fl' c11 c12, GoodF S fl' → More fl fl' → (∀ (j : Nat) (x : Str), w[j]? = some x → ∃ l, fl'[j]? = some l ∧ x ∈ l) → N (mhEnv S rd rl fl' c5 c6 c7 c8 c9 (.fr (.tuple (sL w))) c11 c12)) :
    Wf (mhInner (mhEnv S rd rl fl c5 c6 c7 c8 c9 (.fr (.tuple (sL w))) c11 c12)) N T := by
  unfold mhInner mhEnv
  simp only [ws_for, wi_args, we_acons, we_anil, we_var, List.getElem?_cons_succ, List.getElem?_cons_zero, atVar_fr, wr_ok]
  refine ho_of (zip2_def (x := sL S.names) (y := sL w) rfl rfl) ?_
  rw [show zip2T (sL S.names) (sL w) = (S.names.zip w).map fun p => .tuple [.str p.1, .str p.2] from zip2T_map _ _ _ _]
  refine wf_loop (fun p : Str × Str => .tuple [.str p.1, .str p.2]) (fun pre ρ => ∃ fl' c11 c12, ρ = mhEnv S rd rl fl' c5 c6 c7 c8 c9 (.fr (.tuple (sL w))) c11 c12 ∧ GoodF S fl' ∧ More fl fl' ∧ ∀ (j : Nat) (x : Str), j < pre.length → w[j]? = some x → ∃ l, fl'[j]? = some l ∧ x ∈ l) _ _ ⟨fl, _, _, rfl, g, More.refl fl, fun j x hj => absurd hj (Nat.not_lt_zero j)⟩ ?_ ?_
  · rintro pre ⟨nm, x⟩ post ρ hd ⟨fl', c11, c12, rfl, g', m', hw⟩
    have hat : (S.names.zip w)[pre.length]? = some (nm, x) := by rw [← hd]; simp
    obtain ⟨h1, h2⟩ := List.getElem?_zip_eq_some.mp hat
    have hjn := (List.getElem?_eq_some_iff.mp h1).1
    obtain ⟨l, el⟩ : ∃ l, fl'[pre.length]? = some l := ⟨_, List.getElem?_eq_getElem (by rw [g'.len]; exact hjn)⟩
    have hlm := List.mem_of_getElem? el
    have okx := hS.kindOk x (fw.2.1 x (List.mem_of_getElem? h2))
    have lk := look_dl hS.nd h1 el
    refine ho_of rfl ?_
    simp only [mhEnv, List.set]
    rw [ws_if]
    refine wc_inDl (d := .str x) (k := nm) (kvs := dlD S.names fl') (ds := sL l) (z := !decide (x ∈ l)) rfl rfl rfl lk (ninB_strs okx (okL_of_good hS g' hlm)) ?_
    by_cases hx : x ∈ l
    · rw [if_neg (by simp [hx])]
      refine ⟨fl', _, _, rfl, g', m', fun j y hj ej => ?_⟩
      rw [List.length_append, List.length_singleton] at hj
      by_cases e : j < pre.length
      · exact hw j y e ej
      · obtain rfl : j = pre.length := by omega
        rw [h2] at ej
        cases ej
        exact ⟨l, el, hx⟩
    · rw [if_pos (by simp [hx])]
      have k6 := hS.k6
      have lf := g'.few l hlm
      rw [ws_do]
      refine we_appDl (d := .str x) (k := nm) (kvs := dlD S.names fl') (ds := sL l) rfl rfl rfl lk (by rw [strs_len, lim_val]; omega) ?_
      rw [show sL l ++ [.str x] = sL (l ++ [x]) from strs_snoc.symm, put_dl hS.nd h1 (by rw [g'.len]; exact hjn)]
      obtain ⟨g2, m2⟩ := goodF_set g' el hx fw h2
      refine ⟨fl'.set pre.length (l ++ [x]), _, _, rfl, g2, m'.trans m2, fun j y hj ej => ?_⟩
      rw [List.length_append, List.length_singleton] at hj
      by_cases e : j < pre.length
      · obtain ⟨l1, e1, hy⟩ := hw j y e ej
        obtain ⟨l2, e2, s2⟩ := m2 j l1 e1
        exact ⟨l2, e2, s2 y hy⟩
      · obtain rfl : j = pre.length := by omega
        rw [h2] at ej
        cases ej
        exact ⟨_, List.getElem?_set_self (by rw [g'.len]; exact hjn), by simp⟩
  · rintro ρ ⟨fl', c11, c12, rfl, g', m', hw⟩
    refine h fl' c11 c12 g' m' fun j x e => hw j x ?_ e
    have hj := (List.getElem?_eq_some_iff.mp e).1
    rw [List.length_zip, ← fw.1, Nat.min_self]
    exact hj
theorem body_ok (hS : S.Ok) {fl : List (List Str)} {i : Nat} {nm x : Str} {c8 c9 c10 c11 c12 : Cell} {N : Env → Prop} {T : PyData → Env → Prop} (g : GoodF S fl) (hi : S.names[i]? = some nm) (hx : x ∈ S.kinds)
    (h : ∀ fl' c8 c9 c10 c11 c12, GoodF S fl' → More fl fl' → Known S fl' i x → N (mhEnv S rd rl fl' (.fr (.int (i : Nat))) (.fr (.str nm)) (.fr (.str x)) c8 c9 c10 c11 c12)) :
    Wf (mhBody (mhEnv S rd rl fl (.fr (.int (i : Nat))) (.fr (.str nm)) (.fr (.str x)) c8 c9 c10 c11 c12)) N T := by
  have hin := (List.getElem?_eq_some_iff.mp hi).1
  obtain ⟨l, el⟩ : ∃ l, fl[i]? = some l := ⟨_, List.getElem?_eq_getElem (by rw [g.len]; exact hin)⟩
  have hlm := List.mem_of_getElem? el
  have okx := hS.kindOk x hx
  have lk := look_dl hS.nd hi el
  unfold mhBody
  simp only [mhEnv]
  rw [ws_if]
  refine wc_inDl (d := .str x) (k := nm) (kvs := dlD S.names fl) (ds := sL l) (z := !decide (x ∈ l)) rfl rfl rfl lk (ninB_strs okx (okL_of_good hS g hlm)) ?_
  by_cases hm : x ∈ l
  · rw [if_neg (by simp [hm]), ws_nil]
    exact h fl _ _ _ _ _ g (More.refl fl) (.inl ⟨l, el, hm⟩)
  · rw [if_pos (by simp [hm])]
    have n8 := hS.n8
    simp [-List.lookup_eq_none_iff]
    refine nobody_ok (fun ρ' => ?_) hS
    simp [-List.lookup_eq_none_iff]
    have e0 : (S.names.map fun _ => (none : Option Str)).length = S.names.length := List.length_map _
    refine more_ok (st := S.names.map fun _ => none) (by omega) (by omega) fun ρ2 => ?_
    simp [-List.lookup_eq_none_iff]
    refine won_ok (i := i) (x := x) hS hin hx fun d ρ3 ht => ?_
    simp [-List.lookup_eq_none_iff]
    rcases ht with ⟨w, rfl, fw, ew⟩ | ⟨t, rfl, hold⟩
    · refine ho_of (by simp [worldD, gN]; rfl) ?_
      simp
      refine ho_of (eqB_str (by decide +kernel) (by decide +kernel)) ?_
      simp
      refine inner_ok (rd := rd) (rl := rl) hS g fw fun fl' c11 c12 g' m' hw => ?_
      exact h fl' _ _ _ _ _ g' m' (.inl (hw i x ew))
    · refine ho_of (by simp [treeD, gN]; rfl) ?_
      simp
      refine ho_of (eqB_str (by decide +kernel) (by decide +kernel)) ?_
      rw [show decide (("tree" : Str) = ("world" : Str)) = false from by decide +kernel]
      simp
      exact h fl _ _ _ _ _ g (More.refl fl) (.inr fun w fw ew => hold_none hS hold st1_len w fw (st1_ext.mpr fun _ => ew))
end
end DL

/-! S8: may_have, whole; world_or_tree. -/
namespace DL
open PySem PySem.Spec PyProof.Rows L2
theorem loop_ok {S : Sg} {rl rdL rdP : PyData} {c5 c6 c7 c8 c9 c10 c11 c12 : Cell} (hS : S.Ok) {N : Env → Prop} {T : PyData → Env → Prop}
    (h : ∀ fl c5 c6 c7 c8 c9 c10 c11 c12, GoodF S fl → (∀ i x, i < S.names.length → x ∈ S.kinds → Known S fl i x) → N (mhEnv S (.tuple [rdL, rdP, .tuple (sL S.kinds)]) rl fl c5 c6 c7 c8 c9 c10 c11 c12)) :
    Wf (mhLoop (mhEnv S (.tuple [rdL, rdP, .tuple (sL S.kinds)]) rl (S.names.map fun _ => []) c5 c6 c7 c8 c9 c10 c11 c12)) N T := by
  unfold mhLoop mhEnv
  simp only [ws_for, wi_args, we_acons, we_anil, we_var, List.getElem?_cons_succ, List.getElem?_cons_zero, atVar_fr, wr_ok]
  refine ho_of enum1_list ?_
  rw [show enumD 0 (sL S.names) = (S.names.zipIdx).map fun p => .tuple [.int (p.2 : Nat), .str p.1] from enumD_map _ _]
  have g0 : GoodF S (S.names.map fun _ => []) := ⟨by simp, fun l hl => by
    obtain ⟨_, _, rfl⟩ := List.mem_map.mp hl
    exact List.nodup_nil, fun j l e x hx => by
    rw [List.getElem?_map] at e
    cases e2 : S.names[j]? with
    | none => rw [e2] at e; cases e
    | some z =>
      rw [e2] at e
      cases e
      simp at hx⟩
  refine wf_loop (fun p : Str × Nat => .tuple [.int (p.2 : Nat), .str p.1]) (fun pre ρ => ∃ fl c5 c6 c7 c8 c9 c10 c11 c12, ρ = mhEnv S (.tuple [rdL, rdP, .tuple (sL S.kinds)]) rl fl c5 c6 c7 c8 c9 c10 c11 c12 ∧ GoodF S fl ∧ ∀ p ∈ pre, ∀ x ∈ S.kinds, Known S fl p.2 x) _ _ ⟨_, _, _, _, _, _, _, _, _, rfl, g0, by simp⟩ ?_ ?_
  · rintro pre ⟨nm, i⟩ post ρ hd ⟨fl, c5, c6, c7, c8, c9, c10, c11, c12, rfl, g, hk⟩
    have hat : S.names[i]? = some nm := List.mem_zipIdx_iff_getElem?.mp (show (nm, i) ∈ S.names.zipIdx by rw [← hd]; simp)
    refine ho_of rfl ?_
    simp only [mhEnv, List.set, ws_for, wi_of, we_op, we_var, we_c, List.getElem?_cons_succ, List.getElem?_cons_zero, atVar_fr, wr_ok]
    refine ho_of (z := .tuple (sL S.kinds)) rfl (ho_of iter_tuple ?_)
    refine wf_loop (fun s : Str => .str s) (fun prex ρ => ∃ fl' c7 c8 c9 c10 c11 c12, ρ = mhEnv S (.tuple [rdL, rdP, .tuple (sL S.kinds)]) rl fl' (.fr (.int (i : Nat))) (.fr (.str nm)) c7 c8 c9 c10 c11 c12 ∧ GoodF S fl' ∧ More fl fl' ∧ ∀ x ∈ prex, Known S fl' i x) S.kinds _ ⟨_, _, _, _, _, _, _, rfl, g, More.refl fl, by simp⟩ ?_ ?_
    · rintro prex x postx ρ hdx ⟨fl', c7, c8, c9, c10, c11, c12, rfl, g', m', hk'⟩
      have hx : x ∈ S.kinds := by rw [← hdx]; simp
      refine ho_of rfl ?_
      refine body_ok (rd := .tuple [rdL, rdP, .tuple (sL S.kinds)]) (rl := rl) hS g' hat hx fun fl2 c8 c9 c10 c11 c12 g2 m2 k2 => ?_
      refine ⟨fl2, _, _, _, _, _, _, rfl, g2, m'.trans m2, fun y hy => ?_⟩
      rcases List.mem_append.mp hy with z | z
      · exact (hk' y z).more m2
      · rw [List.mem_singleton.mp z]
        exact k2
    · rintro ρ ⟨fl', c7, c8, c9, c10, c11, c12, rfl, g', m', hk'⟩
      refine ⟨fl', _, _, _, _, _, _, _, _, rfl, g', fun p hp x hx => ?_⟩
      rcases List.mem_append.mp hp with z | z
      · exact (hk p z x hx).more m'
      · rw [List.mem_singleton.mp z]
        exact hk' x hx
  · rintro ρ ⟨fl, c5, c6, c7, c8, c9, c10, c11, c12, rfl, g, hk⟩
    refine h fl _ _ _ _ _ _ _ _ g fun i x hi hx => ?_
    exact hk (S.names[i], i) (List.mem_zipIdx_iff_getElem?.mpr (List.getElem?_eq_getElem hi)) x hx
theorem dc_names {g : TgF} {tt : Env → R Bool} {tk tv : Env → R PyData} {vs : List Nat} {ρ : Env} {F : Str → PyData} (hw : wipeE ρ vs = ρ) : ∀ (names : List Str) (pre : List Str), (pre ++ names).Nodup → (∀ x ∈ names, Ho (g (.str x) ρ) fun ρ2 => Wr (tt ρ2) fun b ρ3 => b = true ∧ Wr (tk ρ3) fun y ρ4 => y = .str x ∧ Wr (tv ρ4) fun z ρ5 => z = F x ∧ wipeE ρ5 vs = ρ) →
    dcGo g tt tk tv vs (sL names) (pre.map fun x => (.str x, F x)) ρ = .ok ((pre ++ names).map fun x => (.str x, F x)) ρ
  | [], pre, _, _ => by simp [dcGo]
  | x :: r, pre, nd, h => by
    obtain ⟨ρ2, e2, h2⟩ := h x List.mem_cons_self
    obtain ⟨b, ρ3, e3, rfl, h3⟩ := h2.get
    obtain ⟨y, ρ4, e4, rfl, h4⟩ := h3.get
    obtain ⟨z, ρ5, e5, rfl, h5⟩ := h4.get
    have hn : x ∉ pre := fun hx => (List.nodup_append.mp nd).2.2 x hx x List.mem_cons_self rfl
    show dcGo g tt tk tv vs (.str x :: sL r) _ ρ = _
    unfold dcGo
    rw [hw, e2]
    simp only [e3, if_true, e4, e5]
    rw [if_pos (by rfl), h5]
    have ep : putKD (pre.map fun x => (.str x, F x)) (.str x) (F x) = (pre ++ [x]).map fun x => (.str x, F x) := by
      unfold putKD
      rw [if_neg, List.map_append]
      · rfl
      · rw [List.any_eq_true]
        rintro ⟨p, hp, e⟩
        obtain ⟨z, hz, rfl⟩ := List.mem_map.mp hp
        rw [eqv_str, decide_eq_true_eq] at e
        exact hn (e ▸ hz)
    rw [ep, dc_names hw r (pre ++ [x]) (by rw [List.append_assoc]; exact nd) fun z hz => h z (List.mem_cons_of_mem _ hz), List.append_assoc]
    rfl
theorem mh_of_good {S : Sg} {fl : List (List Str)} (g : GoodF S fl) (hk : ∀ i x, i < S.names.length → x ∈ S.kinds → Known S fl i x) : MH S (fl.map srt) := by
  refine ⟨by rw [List.length_map, g.len], fun l hl => ?_, fun l hl => ?_, fun j l e x => ?_⟩
  · obtain ⟨m, hm, rfl⟩ := List.mem_map.mp hl
    exact (srt_perm m).nodup_iff.mpr (g.nd m hm)
  · obtain ⟨m, hm, rfl⟩ := List.mem_map.mp hl
    exact srt_pw m
  · rw [List.getElem?_map] at e
    cases e2 : fl[j]? with
    | none => rw [e2] at e; cases e
    | some m =>
      rw [e2] at e
      cases e
      rw [mem_srt]
      refine ⟨fun hx => g.fit j m e2 x hx, fun ⟨w, fw, ew⟩ => ?_⟩
      have hj := (List.getElem?_eq_some_iff.mp e2).1
      rw [g.len] at hj
      rcases hk j x hj (fw.2.1 x (List.mem_of_getElem? ew)) with ⟨m', em, hx⟩ | hno
      · rw [e2] at em
        cases em
        exact hx
      · exact absurd ew (hno w fw)
theorem dl_ev {it : Env → R (List PyData)} {g : TgF} {tk : Env → R PyData} {vs : List Nat} {ρ ρ1 ρ2 : Env} {ds : List PyData} {xs : List (PyData × List PyData)} (h : it ρ = .ok ds ρ1) (hl : ds.length < lim) (h2 : dlGo g tk vs ds [] (wipeE ρ1 vs) = .ok xs ρ2) : eDl it g tk vs ρ = .ok xs (backE ρ1 ρ2 vs) := by
  unfold eDl
  rw [h]
  simp only [R.bind]
  rw [if_pos hl, h2]
theorem dc_ev {it : Env → R (List PyData)} {g : TgF} {tt : Env → R Bool} {tk tv : Env → R PyData} {vs : List Nat} {ρ ρ1 ρ2 : Env} {ds : List PyData} {xs : List (PyData × PyData)} (h : it ρ = .ok ds ρ1) (hl : ds.length < lim) (h2 : dcGo g tt tk tv vs ds [] (wipeE ρ1 vs) = .ok xs ρ2) : eDc it g tt tk tv vs ρ = .ok xs (backE ρ1 ρ2 vs) := by
  unfold eDc
  rw [h]
  simp only [R.bind]
  rw [if_pos hl, h2]
section
variable {r : Roll} {mp mk : Nat} {rels : List Rls}
theorem names_sL (r : Roll) (rels : List Rls) : (r.pers.map fun p => PyData.str p.1) = sL (sgOf r rels).names := by
  show _ = sL (r.pers.map (·.1))
  unfold sL
  rw [List.map_map]
  rfl
theorem may_have_any (hr : r.Ok mp mk) (h8 : mp ≤ 8) (h6 : mk ≤ 6) (he : RlssOk r rels) :
    ((∃ w, FitW (sgOf r rels) w) ∧ ∃ res ρ', MH (sgOf r rels) res ∧ f_may_have [.fr r.d, .fr (.list (rels.map Rls.d))] = .ok (mhD (sgOf r rels).names res) ρ') ∨
    ((∀ w, ¬ FitW (sgOf r rels) w) ∧ ∃ ρ', f_may_have [.fr r.d, .fr (.list (rels.map Rls.d))] = .er ⟨1, none⟩ ρ') := by
  have hS := sg_ok hr h8 h6 he
  have hN := names_sL r rels
  have hn : 0 < (sgOf r rels).names.length := by
    show 0 < (r.pers.map (·.1)).length
    rw [List.length_map]
    exact hr.per0
  have hm := hr.perM
  unfold f_may_have
  show _ ∨ (_ ∧ ∃ ρ', fnN 12 b_may_have [.fr r.d, .fr (.list (rels.map Rls.d))] = _)
  unfold fnN b_may_have
  rw [show [Cell.fr r.d, Cell.fr (.list (rels.map Rls.d))] ++ List.replicate 12 .no = [.fr r.d, .fr (.list (rels.map Rls.d)), .no, .no, .no, .no, .no, .no, .no, .no, .no, .no, .no, .no] from rfl]
  generalize hρ0 : ([.fr r.d, .fr (.list (rels.map Rls.d)), .no, .no, .no, .no, .no, .no, .no, .no, .no, .no, .no, .no] : Env) = ρ0
  have s1 : Wf (α := PyData) (sNew 2 (eMake 0 3 (f_Settling_init) (avCons (eVar 0) (avCons (eVar 1) avNil))) ρ0) (fun ρ => ρ = [.fr r.d, .fr (.list (rels.map Rls.d)), .oi false 0 (sgOf r rels).fs, .no, .no, .no, .no, .no, .no, .no, .no, .no, .no, .no]) (fun _ _ => False) := by
    subst hρ0
    rw [ws_new, w_make]
    simp
    refine init_ok hr h8 he fun ρ' => ?_
    simp
  obtain ⟨ρ1, e1, q1⟩ := seq_of (B := (sSeq (sFl 3 (eLc (iOf iterD (eOp ixD (eVar 0) (eC (.int 1)))) (gT 2 (gsCons (gN 6) (gsCons (gN 13) gsNil))) tYesD (eVar 6) [6, 13]))
    (sSeq (sSetDl 4 (eDl (iOf iterD (eVar 3)) (gN 6) (eVar 6) [6]))
    (sSeq mhLoop
    (sSeq (sIf (cNilDl 4 (pIx (pVar 3) (pC (.int 0))))
    (sRaise 1)
    sNil)
    (sRet (eFd (eDc (iOf iterD (eVar 3)) (gN 6) tYesD (eVar 6) (eSortDl 4 (pVar 6)) [6])))))))) s1
  have s2 : Wf (α := PyData) (sFl 3 (eLc (iOf iterD (eOp ixD (eVar 0) (eC (.int 1)))) (gT 2 (gsCons (gN 6) (gsCons (gN 13) gsNil))) tYesD (eVar 6) [6, 13]) ρ1) (fun ρ => ρ = [.fr r.d, .fr (.list (rels.map Rls.d)), .oi false 0 (sgOf r rels).fs, .fr (.list (sL (sgOf r rels).names)), .no, .no, .no, .no, .no, .no, .no, .no, .no, .no]) (fun _ _ => False) := by
    rw [e1]
    simp
    refine ho_of (z := .tuple (r.pers.map perD)) rfl ?_
    simp
    refine ⟨by rw [lim_val]; omega, ?_⟩
    refine wr_map perD (fun p => .str p.1) r.pers rfl (fun q hq => by simp [perD]) ?_
    simp [backE, hN]
  obtain ⟨ρ2, e2, q2⟩ := seq_of (B := (sSeq (sSetDl 4 (eDl (iOf iterD (eVar 3)) (gN 6) (eVar 6) [6]))
    (sSeq mhLoop
    (sSeq (sIf (cNilDl 4 (pIx (pVar 3) (pC (.int 0))))
    (sRaise 1)
    sNil)
    (sRet (eFd (eDc (iOf iterD (eVar 3)) (gN 6) tYesD (eVar 6) (eSortDl 4 (pVar 6)) [6]))))))) s2
  have s3 : sSetDl (α := PyData) 4 (eDl (iOf iterD (eVar 3)) (gN 6) (eVar 6) [6]) ρ2 = .nx (mhEnv (sgOf r rels) r.d (.list (rels.map Rls.d)) ((sgOf r rels).names.map fun _ => []) .no .no .no .no .no .no .no .no) := by
    rw [e2]
    have hd := dl_names (g := gN 6) (tk := eVar 6) (vs := [6]) (ρ := [.fr r.d, .fr (.list (rels.map Rls.d)), .oi false 0 (sgOf r rels).fs, .fr (.list (sL (sgOf r rels).names)), .no, .no, .no, .no, .no, .no, .no, .no, .no, .no]) rfl (sgOf r rels).names [] (by simpa using hS.nd) (fun x hx => by simp)
    rw [List.nil_append] at hd
    have h3 := dl_ev (it := iOf iterD (eVar 3)) (g := gN 6) (tk := eVar 6) (vs := [6]) (ρ := [.fr r.d, .fr (.list (rels.map Rls.d)), .oi false 0 (sgOf r rels).fs, .fr (.list (sL (sgOf r rels).names)), .no, .no, .no, .no, .no, .no, .no, .no, .no, .no]) (ρ1 := [.fr r.d, .fr (.list (rels.map Rls.d)), .oi false 0 (sgOf r rels).fs, .fr (.list (sL (sgOf r rels).names)), .no, .no, .no, .no, .no, .no, .no, .no, .no, .no]) rfl (by rw [strs_len, lim_val]; have := hS.n8; omega) hd
    unfold sSetDl
    rw [h3, dlD_nil]
    rfl
  have s4 : Wf (α := PyData) (mhLoop (mhEnv (sgOf r rels) r.d (.list (rels.map Rls.d)) ((sgOf r rels).names.map fun _ => []) .no .no .no .no .no .no .no .no)) (fun ρ => ∃ fl c5 c6 c7 c8 c9 c10 c11 c12, ρ = mhEnv (sgOf r rels) r.d (.list (rels.map Rls.d)) fl c5 c6 c7 c8 c9 c10 c11 c12 ∧ GoodF (sgOf r rels) fl ∧ ∀ i x, i < (sgOf r rels).names.length → x ∈ (sgOf r rels).kinds → Known (sgOf r rels) fl i x) (fun _ _ => False) := by
    refine loop_ok hS fun fl c5 c6 c7 c8 c9 c10 c11 c12 g hk => ⟨fl, c5, c6, c7, c8, c9, c10, c11, c12, rfl, g, hk⟩
  obtain ⟨ρ4, ⟨fl, c5, c6, c7, c8, c9, c10, c11, c12, e4, g, hk⟩, q4⟩ := seq_of (B := (sSeq (sIf (cNilDl 4 (pIx (pVar 3) (pC (.int 0))))
    (sRaise 1)
    sNil)
    (sRet (eFd (eDc (iOf iterD (eVar 3)) (gN 6) tYesD (eVar 6) (eSortDl 4 (pVar 6)) [6]))))) s4
  obtain ⟨nm, enm⟩ : ∃ nm, (sgOf r rels).names[0]? = some nm := ⟨_, List.getElem?_eq_getElem hn⟩
  obtain ⟨l, el⟩ : ∃ l, fl[0]? = some l := ⟨_, List.getElem?_eq_getElem (by rw [g.len]; exact hn)⟩
  have lk := look_dl hS.nd enm el
  have hlm := List.mem_of_getElem? el
  have tst : cNilDl 4 (pIx (pVar 3) (pC (.int 0))) ρ4 = .ok (sL l).isEmpty ρ4 := by
    refine wc_nilDl (k := nm) (kvs := dlD (sgOf r rels).names fl) (ds := sL l) (by rw [e4]; rfl) ?_ lk (shp_list (okL_of_good hS g hlm))
    rw [e4]
    show ixSeq (.list (sL (sgOf r rels).names)) (.int 0) = _
    show atI _ _ = _
    rw [show (0 : Int) = ((0 : Nat) : Int) from rfl, atI_nat (by rw [strs_len]; exact hn)]
    simp [sL, enm]
  have whole : b_may_have ρ0 = (sSeq (sIf (cNilDl 4 (pIx (pVar 3) (pC (.int 0)))) (sRaise 1) sNil) (sRet (eFd (eDc (iOf iterD (eVar 3)) (gN 6) tYesD (eVar 6) (eSortDl 4 (pVar 6)) [6])))) ρ4 := by
    show sSeq _ _ ρ0 = _
    refine q1.trans (q2.trans ?_)
    unfold sSeq
    rw [s3]
    exact q4
  have whole' := whole
  unfold b_may_have at whole'
  rw [whole']
  cases l with
  | nil =>
    right
    refine ⟨fun w fw => ?_, ρ4, ?_⟩
    · have hw0 : 0 < w.length := by rw [fw.1]; exact hn
      rcases hk 0 w[0] hn (fw.2.1 _ (List.getElem_mem hw0)) with ⟨l, e, hx⟩ | hno
      · rw [el] at e
        cases e
        simp at hx
      · exact hno w fw (List.getElem?_eq_getElem hw0)
    · unfold sSeq sIf
      rw [tst]
      rfl
  | cons x t =>
    left
    obtain ⟨w, fw, -⟩ := g.fit 0 _ el x List.mem_cons_self
    refine ⟨⟨w, fw⟩, fl.map srt, ?_⟩
    have ret : Wf (sRet (eFd (eDc (iOf iterD (eVar 3)) (gN 6) tYesD (eVar 6) (eSortDl 4 (pVar 6)) [6])) ρ4) (fun _ => False) (fun d _ => d = mhD (sgOf r rels).names (fl.map srt)) := by
      rw [e4]
      unfold mhEnv
      rw [ws_ret, we_fd]
      have lookF : ∀ x ∈ (sgOf r rels).names, ∃ l, lookDl (dlD (sgOf r rels).names fl) (.str x) = some (sL l) ∧ l ∈ fl := fun x hx => by
        obtain ⟨j, hj, ej⟩ := List.mem_iff_getElem.mp hx
        have hj2 : j < fl.length := by rw [g.len]; exact hj
        exact ⟨fl[j], look_dl hS.nd (by rw [List.getElem?_eq_getElem hj, ej]) (List.getElem?_eq_getElem hj2), List.getElem_mem hj2⟩
      have hdc := dc_names (g := gN 6) (tt := tYesD) (tk := eVar 6) (tv := eSortDl 4 (pVar 6)) (vs := [6]) (ρ := [.fr r.d, .fr (.list (rels.map Rls.d)), .oi false 0 (sgOf r rels).fs, .fr (.list (sL (sgOf r rels).names)), .dl (dlD (sgOf r rels).names fl), c5, .no, c7, c8, c9, c10, c11, c12, .no]) (F := fun x => .list (sL (srt (match lookDl (dlD (sgOf r rels).names fl) (.str x) with | some ds => (ds.filterMap fun d => match d with | .str s => some s | _ => none) | none => [])))) rfl (sgOf r rels).names [] (by simpa using hS.nd) (fun x hx => by
          obtain ⟨l, e, hl⟩ := lookF x hx
          simp
          have es : (sL l).filterMap (fun d => match d with | .str s => some s | _ => none) = l := by
            unfold sL
            rw [List.filterMap_map]
            exact List.filterMap_some
          rw [e]
          simp only [es]
          refine we_sortDl (k := x) (kvs := dlD (sgOf r rels).names fl) (ds := sL l) rfl rfl e (sortL_strs (okL_of_good hS g hl) (by rw [lim_val]; have := g.few l hl; have := hS.k6; omega)) ?_
          simp)
      rw [List.nil_append] at hdc
      rw [dc_ev (it := iOf iterD (eVar 3)) (ds := sL (sgOf r rels).names) (ρ1 := [.fr r.d, .fr (.list (rels.map Rls.d)), .oi false 0 (sgOf r rels).fs, .fr (.list (sL (sgOf r rels).names)), .dl (dlD (sgOf r rels).names fl), c5, c6, c7, c8, c9, c10, c11, c12, .no]) rfl (by rw [strs_len, lim_val]; have := hS.n8; omega) hdc]
      show PyData.dict _ = _
      unfold mhD
      congr 1
      refine List.ext_getElem (by simp [g.len]) fun j h1 h2 => ?_
      have hj : j < (sgOf r rels).names.length := by simpa using h1
      have hj2 : j < fl.length := by rw [g.len]; exact hj
      have e := look_dl hS.nd (List.getElem?_eq_getElem hj) (List.getElem?_eq_getElem hj2)
      have es : (sL fl[j]).filterMap (fun d => match d with | .str s => some s | _ => none) = fl[j] := by
        unfold sL
        rw [List.filterMap_map]
        exact List.filterMap_some
      simp only [List.getElem_map, List.getElem_zip, e, es]
    cases er : sRet (eFd (eDc (iOf iterD (eVar 3)) (gN 6) tYesD (eVar 6) (eSortDl 4 (pVar 6)) [6])) ρ4 with
    | rt d ρ5 =>
      rw [er] at ret
      have ret : d = _ := ret
      subst ret
      refine ⟨ρ5, mh_of_good g hk, ?_⟩
      have e6 : (sSeq (sIf (cNilDl 4 (pIx (pVar 3) (pC (.int 0)))) (sRaise 1) sNil) (sRet (eFd (eDc (iOf iterD (eVar 3)) (gN 6) tYesD (eVar 6) (eSortDl 4 (pVar 6)) [6])))) ρ4 = .rt (mhD (sgOf r rels).names (fl.map srt)) ρ5 := by
        rw [← er]
        unfold sSeq sIf
        rw [tst]
        rfl
      rw [e6]
    | nx _ => rw [er] at ret; exact ret.elim
    | er _ _ => rw [er] at ret; exact ret.elim
    | bad => rw [er] at ret; exact ret.elim
    | bk _ => rw [er] at ret; exact ret.elim
    | ct _ => rw [er] at ret; exact ret.elim
end
end DL

/-! S9: world_or_tree; trees held. -/
namespace DL
open PySem PySem.Spec PyProof.Rows L2
theorem index_names {names : List Str} {i : Nat} {nm : Str} (hok : ∀ s ∈ names, okS s = true) (nd : names.Nodup) (h : names[i]? = some nm) : indexD (sL names) (.str nm) = some i := by
  unfold indexD
  rw [if_pos ⟨shp_list hok, shp_str (hok nm (List.mem_of_getElem? h))⟩]
  have hi := (List.getElem?_eq_some_iff.mp h).1
  rw [List.findIdx?_eq_some_iff_getElem]
  refine ⟨by rw [strs_len]; exact hi, ?_, fun j hj => ?_⟩
  · have : (sL names)[i]'(by rw [strs_len]; exact hi) = .str nm := by
      have e := (List.getElem?_eq_some_iff.mp h).2
      simp [sL, e]
    rw [this, eqv_str]
    simp
  · have hj2 : j < names.length := by omega
    have : (sL names)[j]'(by rw [strs_len]; exact hj2) = .str names[j] := by simp [sL]
    rw [this, eqv_str]
    simp
    intro e
    have e2 := (List.getElem?_eq_some_iff.mp h).2
    have := (List.getElem_inj nd).mp (e.trans e2.symm)
    omega
section
variable {S : Sg} {p : Bool} {Q : PyData → Env → Prop}
theorem number_ok (hS : S.Ok) {i : Nat} {nm : Str} (hi : S.names[i]? = some nm) (h : ∀ ρ', Q (.int (i : Nat)) (.oi p 0 S.fs :: ρ')) : Wr (f_Settling_number_named [.oi p 0 S.fs, .fr (.str nm)]) Q := by
  refine wr_fnN ?_
  unfold b_Settling_number_named
  simp
  refine ho_of (index_names hS.nameOk hS.nd hi) ?_
  exact h _
variable {r : Roll} {mp mk : Nat} {rels : List Rls}
theorem wot_ok (hr : r.Ok mp mk) (h8 : mp ≤ 8) (h6 : mk ≤ 6) (he : RlssOk r rels) {i : Nat} {nm x : Str} (hi : (sgOf r rels).names[i]? = some nm) (hx : x ∈ r.kinds) (h : ∀ d ρ', Told (sgOf r rels) i x d → Q d ρ') :
    Wr (f_world_or_tree [.fr r.d, .fr (.list (rels.map Rls.d)), .fr (.str nm), .fr (.str x)]) Q := by
  have hS := sg_ok hr h8 h6 he
  have hin := (List.getElem?_eq_some_iff.mp hi).1
  have n8 := hS.n8
  refine wr_fnN ?_
  unfold b_world_or_tree
  simp [w_make, -List.lookup_eq_none_iff]
  refine init_ok hr h8 he fun ρ1 => ?_
  simp [-List.lookup_eq_none_iff]
  refine number_ok hS hi fun ρ2 => ?_
  simp [-List.lookup_eq_none_iff]
  refine nobody_ok (fun ρ3 => ?_) hS
  simp [-List.lookup_eq_none_iff]
  have e0 : ((sgOf r rels).names.map fun _ => (none : Option Str)).length = (sgOf r rels).names.length := List.length_map _
  refine more_ok (st := (sgOf r rels).names.map fun _ => none) (by omega) (by omega) fun ρ4 => ?_
  simp [-List.lookup_eq_none_iff]
  refine won_ok (i := i) (x := x) hS hin hx fun d ρ5 ht => ?_
  simp
  exact h d _ ht
/-! ### trees held -/
/-- .. by what is settled, any depth -/
def HoldE (S : Sg) (st : St) (t : PyData) : Prop := ∃ d, Hold S d st t
end
end DL

/-! S10: what is a release; what fits. -/
namespace DL
open PySem PySem.Spec PyProof.Rows L2
theorem shp_nil : shp (.tuple []) = true := by simp [SeqAt.shaped, PyData.canLay0, PyData.canLayAll0, PyData.depth, PyData.depthAll]
theorem bools_true : ∀ {β : Type} (xs : List β), boolsOf (xs.map fun _ => PyData.bool true) = some (xs.map fun _ => true)
  | _, [] => rfl
  | _, x :: r => by
    show (boolsOf (r.map fun _ => PyData.bool true)).map (true :: ·) = _
    rw [bools_true r]
    rfl
theorem all_true {β : Type} (xs : List β) : allD [.list (xs.map fun _ => PyData.bool true)] = some (.bool true) := by
  show (boolsOf _).map _ = _
  rw [bools_true]
  simp
theorem isi_tup {ds : List PyData} : isiD "tuple" (.tuple ds) = some (.bool true) := by
  show (isiTup "tuple").map PyData.bool = _
  have : isiTup "tuple" = some true := by decide +kernel
  rw [this]
  rfl
theorem isi_str {s : Str} : isiD "str" (.str s) = some (.bool true) := by
  show (kitB "str" "str").map PyData.bool = _
  have : kitB "str" "str" = some true := by decide +kernel
  rw [this]
  rfl
theorem isi_int {i : Int} : isiD "int" (.int i) = some (.bool true) := by
  show (kitB "int" "int").map PyData.bool = _
  have : kitB "int" "int" = some true := by decide +kernel
  rw [this]
  rfl
theorem isi_bool_int {i : Int} : isiD "bool" (.int i) = some (.bool false) := by
  show (kitB "int" "bool").map PyData.bool = _
  have : kitB "int" "bool" = some false := by decide +kernel
  rw [this]
  rfl
section
variable {Q : PyData → Env → Prop}
theorem ixt_cons0 {x : PyData} {r : List PyData} : ixD (.tuple (x :: r)) (.int 0) = some x := by
  rw [show (0 : Int) = ((0 : Nat) : Int) from rfl, ixt_nat (by simp)]
  rfl
theorem ixt_cons1 {x y : PyData} {r : List PyData} : ixD (.tuple (x :: y :: r)) (.int 1) = some y := by
  rw [show (1 : Int) = ((1 : Nat) : Int) from rfl, ixt_nat (by simp)]
  rfl
theorem at_ok {L : PyData} {v : Key} (hL : L ∈ LadsX) (hv : v ∈ valsX L) {k : Nat} (hk : k ≤ topN L) (h : ∀ ρ', Q (.bool true) ρ') : Wr (f_is_at [.fr L, .fr (keyD (coK L v k)), .fr (.int k)]) Q := by
  have h1 := (okL_co hL hv hk).2
  unfold okAtB at h1
  cases es : stepsN L with
  | none =>
    rw [es] at h1
    simp only [okAt] at h1
    cases e : f_is_at [.fr L, .fr (keyD (coK L v k)), .fr (.int k)] with
    | ok d ρ =>
      rw [e] at h1
      cases d with
      | bool b =>
        have h1 : b = true := h1
        subst h1
        exact h ρ
      | _ => cases h1
    | er _ _ => rw [e] at h1; cases h1
    | bad => rw [e] at h1; cases h1
  | some n =>
    rw [es] at h1
    have hd := okL_head hL
    obtain ⟨ss, rfl, hn⟩ : ∃ ss, L = .tuple [.str "num", .tuple ss] ∧ ss.length = n := by
      unfold stepsN at es
      split at es
      · rename_i x ss
        by_cases e : x = "num"
        · rw [if_pos e] at es
          cases es
          exact ⟨ss, by rw [e], rfl⟩
        · rw [if_neg e] at es
          cases es
      · cases es
    have hsf : ss.length < 1000 := by
      have := (top_is hL).2
      have e2 : topN (.tuple [.str "num", .tuple ss]) = ss.length + 1 := by
        have hw : Wr (f__law_top [.fr (.tuple [.str "num", .tuple ss])]) (fun d _ => d = .int ((ss.length : Int) + 1)) := by
          refine wr_fnN ?_
          unfold b__law_top
          simp
          refine ho_of ixt_cons0 (ho_of (eqB_str (by decide +kernel) (by decide +kernel)) ?_)
          simp
          refine ho_of ixt_cons1 ?_
          simp
        obtain ⟨d, ρ, e, rfl⟩ := hw.get
        unfold topN
        rw [e]
        simp only [resD, intV]
        omega
      omega
    unfold okNum at h1
    refine wr_fnN ?_
    unfold b_is_at
    simp
    refine ho_of ixt_cons0 (ho_of (eqB_str (by decide +kernel) (by decide +kernel)) ?_)
    rw [show decide (("num" : Str) = ("tree" : Str)) = false from by decide +kernel]
    simp
    refine ho_of ixt_cons1 ?_
    simp
    cases ec : coK (.tuple [.str "num", .tuple ss]) v k with
    | inr s =>
      rw [ec] at h1
      obtain ⟨h2, rfl⟩ := of_decide_eq_true h1
      rw [if_pos (by omega)]
      simp [keyD]
      refine ho_of isi_str ?_
      simp
      refine ho_of (eqB_str (by decide +kernel) (by decide +kernel)) ?_
      simp
      exact h _
    | inl i =>
      rw [ec] at h1
      simp only [Bool.and_eq_true, decide_eq_true_eq] at h1
      obtain ⟨⟨⟨⟨⟨⟨a1, a2⟩, a3⟩, a4⟩, a5⟩, a6⟩, a7⟩ := h1
      rw [if_neg (by omega)]
      simp only [ws_nil, keyD]
      refine ho_of isi_int ?_
      simp
      refine ho_of isi_bool_int ?_
      simp
      unfold okHead at hd
      rw [Bool.and_eq_true, Bool.or_eq_true] at hd
      have hd2 := hd.2.resolve_left (by
        rw [decide_eq_true_eq]
        exact fun e => absurd e (by decide +kernel))
      rw [Bool.and_eq_true, List.any_eq_true, List.any_eq_true] at hd2
      obtain ⟨⟨v1, m1, e1⟩, ⟨v2, m2, e2⟩⟩ := hd2
      rw [decide_eq_true_eq] at e1 e2
      subst e1 e2
      have c1 := coarse_ok (L := .tuple [.str "num", .tuple ss]) (v := .inl (-999999999)) hL (vals_x m2) hk (Q := fun d _ => d = keyD (coK (.tuple [.str "num", .tuple ss]) (.inl (-999999999)) k)) fun _ => rfl
      obtain ⟨d1, ρ1, q1, rfl⟩ := c1.get
      have c2 := coarse_ok (L := .tuple [.str "num", .tuple ss]) (v := .inl 999999999) hL (vals_x m1) hk (Q := fun d _ => d = keyD (coK (.tuple [.str "num", .tuple ss]) (.inl 999999999) k)) fun _ => rfl
      obtain ⟨d2, ρ2, q2, rfl⟩ := c2.get
      have q1 : f_coarse [.fr (.tuple [.str "num", .tuple ss]), .fr (.int (-999999999)), .fr (.int k)] = _ := q1
      have q2 : f_coarse [.fr (.tuple [.str "num", .tuple ss]), .fr (.int 999999999), .fr (.int k)] = _ := q2
      rw [q1]
      simp
      rw [q2]
      simp
      rw [a4, a6]
      simp only [keyD, cmpI_int, ho_some, decide_eq_true_eq]
      rw [if_pos a5, if_pos a7]
      cases e3 : f_coarse [.fr (.tuple [.str "num", .tuple ss]), .fr (.int i), .fr (.int k)] with
      | ok d ρ =>
        rw [e3] at a2
        cases d with
        | int j =>
          have a2 : j = i := of_decide_eq_true a2
          subst a2
          simp
          exact h _
        | _ => cases a2
      | er _ _ => rw [e3] at a2; cases a2
      | bad => rw [e3] at a2; cases a2
theorem secret_ok {s : Str} (hs : nameS s = true) (h : ∀ ρ', Q (.bool true) ρ') : Wr (f_is_secret [.fr (.str s)]) Q := by
  refine wr_fnN ?_
  unfold nameS at hs
  simp only [Bool.and_eq_true, decide_eq_true_eq] at hs
  obtain ⟨⟨h1, h2, h3⟩, h4⟩ := hs
  rw [List.all_eq_true] at h4
  unfold b_is_secret
  simp
  refine ho_of isi_str ?_
  simp
  have el : lenD [.str s] = some (.int s.length) := if_pos (by rw [lim_val]; omega)
  rw [el]
  simp only [ho_some, cmpI_int]
  rw [if_pos (by simp; omega)]
  simp
  rw [if_pos (by omega)]
  refine ho_of (z := s.cps.toList.map fun c => PyData.str ⟨#[c]⟩) rfl ?_
  refine ⟨by rw [List.length_map, lim_val]; show s.length < _; omega, ?_⟩
  refine wr_map (fun c : Nat => .str ⟨#[c]⟩) (fun _ => .bool true) s.cps.toList (by simp) (fun c hc => ?_) ?_
  · simp
    have hc2 := h4 c hc
    rw [decide_eq_true_eq] at hc2
    have : inB (.str ⟨#[c]⟩) (.str "abcdefghijklmnopqrstuvwxyz") = some (decide (c ∈ (Str.ofString "abcdefghijklmnopqrstuvwxyz").cps.toList)) := rfl
    rw [this]
    have hm : c ∈ (Str.ofString "abcdefghijklmnopqrstuvwxyz").cps.toList := by
      have e : (Str.ofString "abcdefghijklmnopqrstuvwxyz").cps.toList = (List.range 26).map (· + 97) := by decide +kernel
      rw [e]
      exact List.mem_map.mpr ⟨c - 97, List.mem_range.mpr (by omega), by omega⟩
    simp [hm]
  · simp [backE]
    refine ho_of (all_true _) ?_
    exact h _
/-- a key at levels -/
def KeyAtOk (lads : List PyData) (lv : List Nat) (k : KL) : Prop := ∃ pubs, Pubs lads pubs ∧ k = keyAt lads pubs lv
structure Rls.Full (lads : List PyData) (e : Rls) : Prop where
  lv : LvOk lads e.lv
  gfew : e.gs.length ≤ 100
  keyOk : ∀ g ∈ e.gs, KeyAtOk lads e.lv g.1
  secOk : ∀ g ∈ e.gs, ∀ s ∈ g.2, nameS s = true
  secFew : ∀ g ∈ e.gs, g.2.length ≤ 50
  sec0 : ∀ g ∈ e.gs, g.2 ≠ []
  secSrt : ∀ g ∈ e.gs, g.2.Pairwise (fun a b => sle a b = true)
  rising : ∀ p ∈ e.gs.zip e.gs.tail, ltB (kt p.1.1) (kt p.2.1) = some true
theorem Rls.Full.ok {r : Roll} {mp mk : Nat} {e : Rls} (hr : r.Ok mp mk) (f : e.Full r.lads) : e.Ok r :=
  ⟨f.lv, f.gfew, fun g hg => by
    obtain ⟨pubs, hp, e2⟩ := f.keyOk g hg
    rw [e2]
    exact keyAt_ok hr.lads hp f.lv, fun g hg s hs => nameS_ok (f.secOk g hg s hs), f.secFew, f.sec0, f.secSrt⟩
theorem is_key_ok {lads : List PyData} {lv : List Nat} {k : KL} (h4 : lads.length ≤ 1000) (hL : ∀ L ∈ lads, L ∈ LadsX) (hl : LvOk lads lv) (hk : KeyAtOk lads lv k) (h : ∀ ρ', Q (.bool true) ρ') : Wr (f_is_key [.fr (.tuple lads), .fr (.tuple (nats lv)), .fr (kt k)]) Q := by
  obtain ⟨pubs, hp, rfl⟩ := hk
  have l1 := pubs_len hp
  have l2 := lv_len hl
  have l3 := keyAt_len hp hl
  refine wr_fnN ?_
  unfold b_is_key
  simp
  refine ho_of isi_tup ?_
  simp [kt]
  rw [show ((keyAt lads pubs lv).length : Int) = (lads.length : Int) from by rw [l3]]
  simp
  refine ho_of (zip3_def (x := lads) (y := nats lv) (z := keys (keyAt lads pubs lv)) rfl rfl rfl) ?_
  have e := zip3T_map (fun L : PyData => L) (fun i : Nat => PyData.int (i : Nat)) keyD lads lv (keyAt lads pubs lv)
  rw [List.map_id'] at e
  rw [show zip3T lads (nats lv) (keys (keyAt lads pubs lv)) = _ from e]
  refine ⟨by simp [lim_val]; omega, ?_⟩
  have key : ∀ (a : List PyData) (b : KL) (c : List Nat), (∀ L ∈ a, L ∈ LadsX) → Pubs a b → LvOk a c → ∀ p ∈ a.zip (c.zip (keyAt a b c)), p.1 ∈ LadsX ∧ p.2.1 ≤ topN p.1 ∧ ∃ v ∈ valsX p.1, p.2.2 = coK p.1 v p.2.1 := by
    intro a
    induction a with
    | nil => intro b c _ _ _ p hp; simp at hp
    | cons L r ih =>
      intro b c hL hp hl p hm
      cases b with
      | nil => exact hp.elim
      | cons v s =>
        cases c with
        | nil => exact hl.elim
        | cons k t =>
          simp only [keyAt, List.zip_cons_cons] at hm
          rcases List.mem_cons.mp hm with z | z
          · subst z
            exact ⟨hL L List.mem_cons_self, hl.1, v, hp.1, rfl⟩
          · exact ih s t (fun L hL' => hL L (List.mem_cons_of_mem _ hL')) hp.2 hl.2 p z
  refine wr_map (fun p : PyData × Nat × Key => .tuple [p.1, .int (p.2.1 : Nat), keyD p.2.2]) (fun _ => .bool true) _ (by simp) (fun p hm => ?_) ?_
  · obtain ⟨h1, h2, v, hv, ev⟩ := key lads pubs lv hL hp hl p hm
    simp
    rw [ev]
    refine at_ok h1 hv h2 fun ρ' => ?_
    simp
  · simp [backE]
    refine ho_of (all_true _) ?_
    exact h _
theorem list_sorted {xs : List Str} (hok : ∀ x ∈ xs, okS x = true) (hs : xs.Pairwise (fun a b => sle a b = true)) (hl : xs.length ≤ lim) : sortL (sL xs) = some (.list (sL xs)) := by
  rw [sortL_strs hok hl, srt_id hs]
theorem is_group_ok {lads : List PyData} {lv : List Nat} {g : Grp} (h4 : lads.length ≤ 1000) (hL : ∀ L ∈ lads, L ∈ LadsX) (hl : LvOk lads lv) (hk : KeyAtOk lads lv g.1) (hs : ∀ s ∈ g.2, nameS s = true) (h0 : g.2 ≠ []) (hf : g.2.length ≤ 50) (hsr : g.2.Pairwise (fun a b => sle a b = true)) (h : ∀ ρ', Q (.bool true) ρ') :
    Wr (f_is_group [.fr (.tuple lads), .fr (.tuple (nats lv)), .fr (grpD g)]) Q := by
  have okS' : ∀ s ∈ g.2, okS s = true := fun s hs' => nameS_ok (hs s hs')
  refine wr_fnN ?_
  unfold b_is_group grpD
  simp
  refine ho_of isi_tup ?_
  simp
  refine ho_of (z := .tuple (sL g.2)) rfl (ho_of isi_tup ?_)
  simp
  refine ho_of (z := .tuple (sL g.2)) rfl ?_
  have e1 : eqB (.tuple (sL g.2)) (.tuple []) = some false := by
    unfold eqB
    rw [if_pos ⟨shp_tup okS', shp_nil⟩]
    have := eqv_strs (xs := g.2) (ys := [])
    simp only [PyData.eqv]
    rw [show ([] : List PyData) = sL [] from rfl, this]
    simp [h0]
  refine ho_of e1 ?_
  simp
  refine ho_of (z := kt g.1) rfl ?_
  refine is_key_ok h4 hL hl hk fun ρ1 => ?_
  simp
  refine ho_of (z := .tuple (sL g.2)) rfl ?_
  simp
  refine ⟨by rw [lim_val]; omega, ?_⟩
  refine wr_map (fun s : Str => .str s) (fun _ => .bool true) g.2 (by simp) (fun s hs' => ?_) ?_
  · simp
    refine secret_ok (hs s hs') fun ρ' => ?_
    simp
  · simp [backE]
    refine ho_of (all_true _) ?_
    simp
    refine ho_of (z := .tuple (sL g.2)) rfl ?_
    simp
    refine ho_of (z := .tuple (sL g.2)) rfl ?_
    refine ho_of (list_sorted okS' hsr (by rw [lim_val]; omega)) ?_
    refine ho_of (eqB_list okS' okS') ?_
    simp
    exact h _
end
end DL

/-! S11: is_release, fits. -/
namespace DL
open PySem PySem.Spec PyProof.Rows L2
section
variable {Q : PyData → Env → Prop}
theorem ixt_pair1 {x y : PyData} : ixD (.tuple [x, y]) (.int 1) = some y := ixt_cons1
theorem levels_lt {lads : List PyData} {lv : List Nat} : (∀ L ∈ lads, L ∈ LadsX) → LvOk lads lv → ∀ p ∈ lads.zip lv, p.1 ∈ LadsX ∧ p.2 ≤ topN p.1 := by
  induction lads generalizing lv with
  | nil => intro _ _ p hp; simp at hp
  | cons L r ih =>
    intro hL hl p hm
    cases lv with
    | nil => exact hl.elim
    | cons k t =>
      rw [List.zip_cons_cons] at hm
      rcases List.mem_cons.mp hm with z | z
      · subst z
        exact ⟨hL L List.mem_cons_self, hl.1⟩
      · exact ih (fun L hL' => hL L (List.mem_cons_of_mem _ hL')) hl.2 p z
theorem are_levels_ok {lads : List PyData} {lv : List Nat} (h4 : lads.length ≤ 1000) (hL : ∀ L ∈ lads, L ∈ LadsX) (hl : LvOk lads lv) (h : ∀ ρ', Q (.bool true) ρ') : Wr (f_are_levels [.fr (.tuple lads), .fr (.tuple (nats lv))]) Q := by
  have l2 := lv_len hl
  refine wr_fnN ?_
  unfold b_are_levels
  simp
  refine ho_of isi_tup ?_
  simp
  rw [show ((lv.length : Int)) = (lads.length : Int) from by rw [l2]]
  simp
  refine ho_of (zip2_def (x := lads) (y := nats lv) rfl rfl) ?_
  have e := zip2T_map (fun L : PyData => L) (fun i : Nat => PyData.int (i : Nat)) lads lv
  rw [List.map_id'] at e
  rw [show zip2T lads (nats lv) = _ from e]
  refine ⟨by simp [lim_val]; omega, ?_⟩
  refine ⟨by simp [lim_val]; omega, ?_⟩
  refine wr_map (fun p : PyData × Nat => .tuple [p.1, .int (p.2 : Nat)]) (fun _ => .bool true) _ (by simp) (fun p hm => ?_) ?_
  · obtain ⟨h1, h2⟩ := levels_lt hL hl p hm
    simp
    have hw : Wr (f_is_number [.fr (.int (p.2 : Nat))]) (fun d _ => d = .bool true) := by
      refine wr_fnN ?_
      unfold b_is_number
      simp
      refine ho_of isi_int ?_
      simp
      refine ho_of isi_bool_int ?_
      simp
    obtain ⟨d, ρ, q, rfl⟩ := hw.get
    rw [q]
    simp
    refine levels_ok h1 fun ρ' => ?_
    simp
    omega
  · simp [backE]
    refine ho_of (all_true _) ?_
    exact h _
structure RelsFull (lads : List PyData) (rels : List Rls) : Prop where
  each : ∀ e ∈ rels, e.Full lads
  few : rels.length ≤ 10
theorem RelsFull.ok {r : Roll} {mp mk : Nat} {rels : List Rls} (hr : r.Ok mp mk) (f : RelsFull r.lads rels) : RlssOk r rels := ⟨fun e he => (f.each e he).ok hr, f.few⟩
theorem is_release_ok {lads : List PyData} {e : Rls} (h4 : lads.length ≤ 1000) (hL : ∀ L ∈ lads, L ∈ LadsX) (f : e.Full lads) (h : ∀ ρ', Q (.bool true) ρ') : Wr (f_is_release [.fr (.tuple lads), .fr e.d]) Q := by
  have hg := f.gfew
  refine wr_fnN ?_
  unfold b_is_release Rls.d
  simp
  refine ho_of isi_tup ?_
  simp
  refine ho_of (ixt_cons1 (y := .tuple (e.gs.map grpD))) (ho_of isi_tup ?_)
  simp
  refine are_levels_ok h4 hL f.lv fun ρ1 => ?_
  simp
  refine ⟨by rw [lim_val]; omega, ?_⟩
  refine wr_map grpD (fun _ => .bool true) e.gs (by simp) (fun g hm => ?_) ?_
  · simp
    refine is_group_ok h4 hL f.lv (f.keyOk g hm) (f.secOk g hm) (f.sec0 g hm) (f.secFew g hm) (f.secSrt g hm) fun ρ' => ?_
    simp
  simp [backE]
  refine ho_of (all_true _) ?_
  simp
  refine ⟨by rw [lim_val]; omega, ?_⟩
  refine wr_map grpD (fun g => kt g.1) e.gs (by simp) (fun g hm => by simp [grpD]) ?_
  simp [backE, slD]
  rw [show (1 : Int) = ((1 : Nat) : Int) from rfl]
  by_cases h0 : e.gs = []
  · rw [h0]
    simp
    refine ho_of (zip2_def (x := []) (y := cutD [] (some 1) none) rfl rfl) ?_
    rw [show zip2T [] (cutD ([] : List PyData) (some 1) none) = [] from rfl]
    simp [lcGo, lim_val]
    refine ho_of (all_true (β := Unit) []) ?_
    exact h _
  · have h1 : 1 ≤ e.gs.length := by
      have := List.length_pos_iff.mpr h0
      omega
    rw [cut_hi _ _ (by simpa using h1)]
    have et : List.drop 1 (e.gs.map fun g : Grp => kt g.1) = e.gs.tail.map fun g : Grp => kt g.1 := by
      rw [← List.map_drop, List.drop_one]
    rw [et]
    refine ho_of (zip2_def (x := e.gs.map fun g : Grp => kt g.1) (y := e.gs.tail.map fun g : Grp => kt g.1) rfl rfl) ?_
    rw [zip2T_map]
    refine ⟨by simp [lim_val]; omega, ?_⟩
    refine wr_map (fun p : Grp × Grp => .tuple [kt p.1.1, kt p.2.1]) (fun _ => .bool true) _ (by simp) (fun p hm => ?_) ?_
    · simp
      refine ho_of (f.rising p hm) ?_
      simp
    · simp [backE]
      refine ho_of (all_true _) ?_
      exact h _
/-! ### fits -/
/-- the secrets of a group's persons -/
def atW (w : List Str) (i : Nat) : Str := (w[i]?).getD Str.empty
def Knot.fitB (k : Knot) (w : List Str) : Bool := decide (srt (k.mem.map (atW w)) = k.sec)
def fitB (r : Roll) (rels : List Rls) (w : List Str) : Bool := (knotsOf r rels).all fun k => k.fitB w
theorem ix_strs {w : List Str} {i : Nat} (h : i < w.length) : ixD (.tuple (sL w)) (.int (i : Nat)) = some (.str (atW w i)) := by
  rw [ixt_nat (by rw [strs_len]; exact h)]
  simp [sL, atW, List.getElem?_eq_getElem h]
theorem fits_ok {r : Roll} {mp mk : Nat} {rels : List Rls} {w : List Str} (hr : r.Ok mp mk) (h8 : mp ≤ 8) (f : RelsFull r.lads rels) (hw : w.length = r.pers.length) (hwo : ∀ x ∈ w, okS x = true) (h : ∀ ρ', Q (.bool (fitB r rels w)) ρ') :
    Wr (f_fits [.fr r.d, .fr (.tuple (sL w)), .fr (.list (rels.map Rls.d))]) Q := by
  have he := f.ok hr
  have hlad := hr.lad4
  have hper := hr.perM
  refine wr_fnN ?_
  unfold b_fits
  simp
  refine ⟨by rw [lim_val]; have := f.few; omega, ?_⟩
  refine wr_map Rls.d (fun _ => .bool true) rels (by simp) (fun e hm => ?_) ?_
  · simp
    refine ho_of (z := .tuple r.lads) ixt_cons0 ?_
    refine is_release_ok (by omega) hr.lads (f.each e hm) fun ρ' => ?_
    simp
  simp [backE]
  refine ho_of (all_true _) ?_
  simp
  refine knots_of_ok hr h8 he fun ρ1 => ?_
  simp
  refine wf_loop Knot.d (fun pre ρ => (∃ c3 c4 c5 c6, ρ = [.fr r.d, .fr (.tuple (sL w)), .fr (.list (rels.map Rls.d)), c3, c4, c5, c6, .no, .no]) ∧ ∀ k ∈ pre, k.fitB w = true) (knotsOf r rels) _ ⟨⟨_, _, _, _, rfl⟩, by simp⟩ ?_ ?_
  · rintro pre k post ρ hd ⟨⟨c3, c4, c5, c6, rfl⟩, hpre⟩
    have hk : k ∈ knotsOf r rels := by rw [← hd]; simp
    have ok := knot_ok hr h8 he k hk
    have mf := ok.memFew
    have sf := ok.secFew
    refine ho_of (by unfold Knot.d; simp [List.set]; exact rfl) ?_
    simp
    refine ⟨by rw [lim_val]; omega, ?_⟩
    refine wr_map (fun i : Nat => .int (i : Nat)) (fun i => .str (atW w i)) k.mem (by simp) (fun i hi => ?_) ?_
    · simp
      refine ho_of (ix_strs (by rw [hw]; exact ok.memLt i hi)) ?_
      simp
    simp [backE]
    have em : List.map (fun i => PyData.str (atW w i)) k.mem = sL (k.mem.map (atW w)) := by
      unfold sL
      rw [List.map_map]
      rfl
    rw [em]
    have oka : ∀ y ∈ k.mem.map (atW w), okS y = true := fun y hy => by
      obtain ⟨i, hi, rfl⟩ := List.mem_map.mp hy
      have hi2 : i < w.length := by rw [hw]; exact ok.memLt i hi
      refine hwo _ ?_
      simp [atW, List.getElem?_eq_getElem hi2]
    refine ho_of (sortL_strs oka (by rw [List.length_map, lim_val]; omega)) ?_
    refine ho_of (neB_list (fun y hy => oka y (mem_srt.mp hy)) ok.secOk) ?_
    by_cases hf : srt (k.mem.map (atW w)) = k.sec
    · rw [show decide (srt (k.mem.map (atW w)) ≠ k.sec) = false from by simp [hf]]
      simp
      intro k' hk'
      rcases hk' with z | z
      · exact hpre k' z
      · rw [z]
        simp [Knot.fitB, hf]
    · rw [show decide (srt (k.mem.map (atW w)) ≠ k.sec) = true from by simp [hf]]
      simp
      have e0 : fitB r rels w = false := by
        unfold fitB
        rw [List.all_eq_false]
        exact ⟨k, hk, by simp [Knot.fitB, hf]⟩
      rw [e0] at h
      exact h _
  · rintro ρ ⟨⟨c3, c4, c5, c6, rfl⟩, hall⟩
    simp
    have e0 : fitB r rels w = true := by
      unfold fitB
      rw [List.all_eq_true]
      exact hall
    rw [e0] at h
    exact h _
end
end DL

/-! S12: whether anything is a tree that holds. -/
namespace DL
open PySem PySem.Spec PyProof.Rows L2
def isStr : PyData → Bool
  | .str _ => true
  | _ => false
def isTup : PyData → Bool
  | .tuple _ => true
  | _ => false
def isBl : PyData → Bool
  | .bool _ => true
  | _ => false
def isInt : PyData → Bool
  | .int _ => true
  | .bool _ => true
  | _ => false
theorem kit_tab : (["NoneType", "bool", "int", "str", "list", "dict"].all fun a => (kitB a "str" == some (a == "str")) && (kitB a "tuple" == some false) && (kitB a "bool" == some (a == "bool")) && (kitB a "int" == some (a == "int" || a == "bool")) && (kitB a "list" == some (a == "list")) && (kitB a "dict" == some (a == "dict"))) = true := by decide +kernel
theorem tup_tab : isiTup "str" = some false ∧ isiTup "tuple" = some true ∧ isiTup "bool" = some false ∧ isiTup "int" = some false := by decide +kernel
theorem kit_at {a : String} (h : a ∈ ["NoneType", "bool", "int", "str", "list", "dict"]) : kitB a "str" = some (a == "str") ∧ kitB a "tuple" = some false ∧ kitB a "bool" = some (a == "bool") ∧ kitB a "int" = some (a == "int" || a == "bool") := by
  have := List.all_eq_true.mp kit_tab a h
  simp only [Bool.and_eq_true, beq_iff_eq] at this
  exact ⟨this.1.1.1.1.1, this.1.1.1.1.2, this.1.1.1.2, this.1.1.2⟩
theorem isi_kit {T : String} {d : PyData} (h : ∀ ds, d ≠ .tuple ds) : isiD T d = (kitB (tyN d) T).map .bool := by
  cases d <;> first | rfl | exact absurd rfl (h _)
theorem isi_str_any (d : PyData) : isiD "str" d = some (.bool (isStr d)) := by
  cases d with
  | tuple ds => show (isiTup "str").map PyData.bool = _; rw [tup_tab.1]; rfl
  | none => rw [isi_kit (by simp)]; show (kitB "NoneType" "str").map PyData.bool = _; rw [(kit_at (by simp)).1]; rfl
  | bool b => rw [isi_kit (by simp)]; show (kitB "bool" "str").map PyData.bool = _; rw [(kit_at (by simp)).1]; rfl
  | int b => rw [isi_kit (by simp)]; show (kitB "int" "str").map PyData.bool = _; rw [(kit_at (by simp)).1]; rfl
  | str b => rw [isi_kit (by simp)]; show (kitB "str" "str").map PyData.bool = _; rw [(kit_at (by simp)).1]; rfl
  | list b => rw [isi_kit (by simp)]; show (kitB "list" "str").map PyData.bool = _; rw [(kit_at (by simp)).1]; rfl
  | dict b => rw [isi_kit (by simp)]; show (kitB "dict" "str").map PyData.bool = _; rw [(kit_at (by simp)).1]; rfl
theorem isi_tup_any (d : PyData) : isiD "tuple" d = some (.bool (isTup d)) := by
  cases d with
  | tuple ds => show (isiTup "tuple").map PyData.bool = _; rw [tup_tab.2.1]; rfl
  | none => rw [isi_kit (by simp)]; show (kitB "NoneType" "tuple").map PyData.bool = _; rw [(kit_at (by simp)).2.1]; rfl
  | bool b => rw [isi_kit (by simp)]; show (kitB "bool" "tuple").map PyData.bool = _; rw [(kit_at (by simp)).2.1]; rfl
  | int b => rw [isi_kit (by simp)]; show (kitB "int" "tuple").map PyData.bool = _; rw [(kit_at (by simp)).2.1]; rfl
  | str b => rw [isi_kit (by simp)]; show (kitB "str" "tuple").map PyData.bool = _; rw [(kit_at (by simp)).2.1]; rfl
  | list b => rw [isi_kit (by simp)]; show (kitB "list" "tuple").map PyData.bool = _; rw [(kit_at (by simp)).2.1]; rfl
  | dict b => rw [isi_kit (by simp)]; show (kitB "dict" "tuple").map PyData.bool = _; rw [(kit_at (by simp)).2.1]; rfl
theorem isi_bool_any (d : PyData) : isiD "bool" d = some (.bool (isBl d)) := by
  cases d with
  | tuple ds => show (isiTup "bool").map PyData.bool = _; rw [tup_tab.2.2.1]; rfl
  | none => rw [isi_kit (by simp)]; show (kitB "NoneType" "bool").map PyData.bool = _; rw [(kit_at (by simp)).2.2.1]; rfl
  | bool b => rw [isi_kit (by simp)]; show (kitB "bool" "bool").map PyData.bool = _; rw [(kit_at (by simp)).2.2.1]; rfl
  | int b => rw [isi_kit (by simp)]; show (kitB "int" "bool").map PyData.bool = _; rw [(kit_at (by simp)).2.2.1]; rfl
  | str b => rw [isi_kit (by simp)]; show (kitB "str" "bool").map PyData.bool = _; rw [(kit_at (by simp)).2.2.1]; rfl
  | list b => rw [isi_kit (by simp)]; show (kitB "list" "bool").map PyData.bool = _; rw [(kit_at (by simp)).2.2.1]; rfl
  | dict b => rw [isi_kit (by simp)]; show (kitB "dict" "bool").map PyData.bool = _; rw [(kit_at (by simp)).2.2.1]; rfl
theorem isi_int_any (d : PyData) : isiD "int" d = some (.bool (isInt d)) := by
  cases d with
  | tuple ds => show (isiTup "int").map PyData.bool = _; rw [tup_tab.2.2.2]; rfl
  | none => rw [isi_kit (by simp)]; show (kitB "NoneType" "int").map PyData.bool = _; rw [(kit_at (by simp)).2.2.2]; rfl
  | bool b => rw [isi_kit (by simp)]; show (kitB "bool" "int").map PyData.bool = _; rw [(kit_at (by simp)).2.2.2]; rfl
  | int b => rw [isi_kit (by simp)]; show (kitB "int" "int").map PyData.bool = _; rw [(kit_at (by simp)).2.2.2]; rfl
  | str b => rw [isi_kit (by simp)]; show (kitB "str" "int").map PyData.bool = _; rw [(kit_at (by simp)).2.2.2]; rfl
  | list b => rw [isi_kit (by simp)]; show (kitB "list" "int").map PyData.bool = _; rw [(kit_at (by simp)).2.2.2]; rfl
  | dict b => rw [isi_kit (by simp)]; show (kitB "dict" "int").map PyData.bool = _; rw [(kit_at (by simp)).2.2.2]; rfl
/-! ### shapes of parts -/
theorem shp_sub {ds : List PyData} (h : shp (.tuple ds) = true) : ∀ d ∈ ds, shp d = true ∧ d.depth + 1 ≤ (PyData.tuple ds).depth := by
  have h1 := SeqAt.canLay_of_shaped h
  have h2 := SeqAt.depth_of_shaped h
  have gen : ∀ l : List PyData, PyData.canLayAll0 l = true → ∀ d ∈ l, d.canLay0 = true ∧ d.depth ≤ PyData.depthAll l := by
    intro l
    induction l with
    | nil => intro _ d hd; simp at hd
    | cons x r ih =>
      intro hc d hd
      simp only [PyData.canLayAll0, Bool.and_eq_true] at hc
      simp only [PyData.depthAll]
      rcases List.mem_cons.mp hd with z | z
      · subst z
        exact ⟨hc.1, Nat.le_max_left _ _⟩
      · obtain ⟨a, b⟩ := ih hc.2 d z
        exact ⟨a, Nat.le_trans b (Nat.le_max_right _ _)⟩
  intro d hd
  simp only [PyData.canLay0] at h1
  obtain ⟨a, b⟩ := gen ds h1 d hd
  have e : (PyData.tuple ds).depth = PyData.depthAll ds + 1 := by simp [PyData.depth]
  rw [e] at h2 ⊢
  exact ⟨by simp [SeqAt.shaped, a]; omega, by omega⟩
theorem shp_okS {x : Str} (h : shp (.str x) = true) : okS x = true := by
  have := SeqAt.canLay_of_shaped h
  simp only [PyData.canLay0] at this
  simp [okS, this]
/-! ### what holds -/
def keySame (key : KL) : PyData → Bool
  | .tuple ds => PyData.eqv (.tuple ds) (kt key) && !(ds.any isBl)
  | _ => false
def clashH (S : Sg) (st : St) (a b c : PyData) : Bool := match a, c with
  | .int at', .str x => match S.knots.find? fun k => decide ((k.at' : Int) = at') && keySame k.key b with
    | some k => k.clash st x
    | none => false
  | _, _ => false
def splitH (S : Sg) (rec : St → PyData → Bool) (st : St) (a b : PyData) : Bool := match a, b with
  | .str nm, .tuple ts => match S.names.findIdx? fun y => decide (y = nm) with
    | some i => free st i && decide (ts.length = S.kinds.length) && (S.kinds.zip ts).all fun p => rec (st.set i (some p.1)) p.2
    | none => false
  | _, _ => false
def holdsD (S : Sg) : Nat → St → PyData → Bool
  | 0, _, _ => false
  | n + 1, st, t => match t with
    | .tuple [.str w, a, b, c] => if w = "clash" then clashH S st a b c else false
    | .tuple [.str w, a, b] => if w = "split" then splitH S (holdsD S n) st a b else false
    | _ => false
section
variable {S : Sg} {p : Bool} {Q : PyData → Env → Prop}
theorem bools_map {β : Type} (f : β → Bool) : ∀ xs : List β, boolsOf (xs.map fun x => PyData.bool (f x)) = some (xs.map f)
  | [] => rfl
  | x :: r => by
    show (boolsOf (r.map fun x => PyData.bool (f x))).map (f x :: ·) = _
    rw [bools_map f r]
    rfl
theorem any_map {β : Type} (f : β → Bool) (xs : List β) : anyD [.list (xs.map fun x => PyData.bool (f x))] = some (.bool (xs.any f)) := by
  show (boolsOf _).map _ = _
  rw [bools_map]
  simp [List.any_map]
theorem all_map {β : Type} (f : β → Bool) (xs : List β) : allD [.list (xs.map fun x => PyData.bool (f x))] = some (.bool (xs.all f)) := by
  show (boolsOf _).map _ = _
  rw [bools_map]
  simp [List.all_map]
theorem same_key_ok {key : KL} {t : PyData} (hk : ∀ x ∈ key, okK x = true) (ht : shp t = true) (hl : key.length ≤ 1000) (h : ∀ ρ', Q (.bool (keySame key t)) ρ') : Wr (f_is_same_key [.fr (kt key), .fr t]) Q := by
  refine wr_fnN ?_
  unfold b_is_same_key
  simp
  refine ho_of (isi_tup_any t) ?_
  cases t with
  | tuple ds =>
    simp [isTup]
    have en : neB (.tuple ds) (kt key) = some (!PyData.eqv (.tuple ds) (kt key)) := if_pos ⟨ht, shp_kt hk⟩
    refine ho_of en ?_
    cases e : PyData.eqv (.tuple ds) (kt key) with
    | false =>
      simp [keySame, e] at h ⊢
      exact h _
    | true =>
      have hlen : ds.length = key.length := by
        have gen : ∀ (a b : List PyData), PyData.eqvAll a b = true → a.length = b.length := by
          intro a
          induction a with
          | nil => intro b h; cases b <;> simp [PyData.eqvAll] at h ⊢
          | cons x r ih =>
            intro b h
            cases b with
            | nil => simp [PyData.eqvAll] at h
            | cons y s =>
              simp only [PyData.eqvAll, Bool.and_eq_true] at h
              simp [ih s h.2]
        have := gen ds (keys key) (by simpa [kt, PyData.eqv] using e)
        rwa [keys_len] at this
      simp
      refine ⟨by rw [lim_val]; omega, ?_⟩
      have em : ds = ds.map fun d => d := (List.map_id' ds).symm
      have hw := wr_map (g := gN 2) (tt := tYesD) (te := eIsi "bool" (eVar 2)) (vs := [2]) (fun d : PyData => d) (fun d => .bool (isBl d)) (ρ := [.fr (kt key), .fr (.tuple ds), .no]) ds (Q := fun xs ρ2 => xs = ds.map (fun d => PyData.bool (isBl d)) ∧ ρ2 = [.fr (kt key), .fr (.tuple ds), .no]) rfl (fun d hd => by
        simp
        refine ho_of (isi_bool_any d) ?_
        simp) ⟨rfl, rfl⟩
      rw [List.map_id'] at hw
      refine hw.mono fun xs ρ2 ⟨e1, e2⟩ => ?_
      subst e1 e2
      simp [backE]
      refine ho_of (any_map isBl ds) ?_
      simp [keySame, e] at h ⊢
      exact h _
  | _ =>
    simp [isTup, keySame] at h ⊢
    exact h _
theorem is_number2_ok {d : PyData} (h : ∀ ρ', Q (.bool (isInt d && !isBl d)) ρ') : Wr (f_is_number_2 [.fr d]) Q := by
  refine wr_fnN ?_
  unfold b_is_number_2
  simp
  refine ho_of (isi_int_any d) ?_
  simp
  cases e : isInt d with
  | true =>
    simp
    refine ho_of (isi_bool_any d) ?_
    simp
    rw [e] at h
    simpa using h _
  | false =>
    simp
    rw [e] at h
    simpa using h _
theorem clash_holds_ok (hS : S.Ok) {st : St} (hst : StOk st) (hl : st.length = S.names.length) (hkl : ∀ k ∈ S.knots, k.key.length ≤ 1000) {w a b c : PyData} (ha : shp a = true) (hb : shp b = true) (hc : shp c = true) (h : ∀ ρ', Q (.bool (clashH S st a b c)) (.oi p 0 S.fs :: ρ')) :
    Wr (f_clash_holds [.oi p 0 S.fs, .fr (.list (sett st)), .fr (.tuple [w, a, b, c])]) Q := by
  refine wr_fnN ?_
  unfold b_clash_holds
  simp
  refine is_number2_ok fun ρ1 => ?_
  simp
  by_cases hn : (isInt a && !isBl a) = true
  · rw [if_pos (by simpa using hn)]
    obtain ⟨i, rfl⟩ : ∃ i, a = .int i := by
      cases a <;> simp [isInt, isBl] at hn
      exact ⟨_, rfl⟩
    refine ho_of (isi_str_any c) ?_
    cases c with
    | str x =>
      simp [isStr, -List.lookup_eq_none_iff]
      refine wf_loop Knot.d (fun pre ρ => (∃ c7, ρ = [.oi p 0 S.fs, .fr (.list (sett st)), .fr (.tuple [w, .int i, b, .str x]), .fr w, .fr (.int i), .fr b, .fr (.str x), c7]) ∧ ∀ k ∈ pre, (decide ((k.at' : Int) = i) && keySame k.key b) = false) S.knots _ ⟨⟨_, rfl⟩, by simp⟩ ?_ ?_
      · rintro pre k post ρ hd ⟨⟨c7, rfl⟩, hpre⟩
        have hk : k ∈ S.knots := by rw [← hd]; simp
        have ok := hS.knots k hk
        refine ho_of rfl ?_
        simp only [List.set]
        simp
        refine ho_of (z := .int (k.at' : Nat)) ixt_cons0 ?_
        simp
        by_cases e1 : (k.at' : Int) = i
        · rw [if_pos e1]
          refine ho_of (z := kt k.key) ixt_cons1 ?_
          refine same_key_ok ok.keyOk hb (hkl k hk) fun ρ2 => ?_
          simp
          cases e2 : keySame k.key b with
          | true =>
            simp
            refine clash_ok (by rw [hl]; exact ok) hst (shp_okS hc) fun ρ3 => ?_
            have : clashH S st (.int i) b (.str x) = k.clash st x := by
              unfold clashH
              simp only
              rw [← hd, List.find?_append, List.find?_eq_none.mpr (fun y hy => by rw [hpre y hy]; simp)]
              simp [e1, e2]
            rw [this] at h
            exact h _
          | false =>
            simp
            intro k' hk' ea
            rcases hk' with z | z
            · have := hpre k' z
              simp [ea] at this
              exact this
            · rw [z]; exact e2
        · rw [if_neg e1]
          intro k' hk' ea
          rcases hk' with z | z
          · have := hpre k' z
            simp [ea] at this
            exact this
          · rw [z] at ea
            exact absurd ea e1
      · rintro ρ ⟨⟨c7, rfl⟩, hall⟩
        simp
        have : clashH S st (.int i) b (.str x) = false := by
          unfold clashH
          simp only
          rw [List.find?_eq_none.mpr (fun y hy => by rw [hall y hy]; simp)]
        rw [this] at h
        exact h _
    | _ =>
      simp [isStr] at h ⊢
      exact h _
  · rw [if_neg (by simpa using hn)]
    have hn : (isInt a && !isBl a) = false := by simpa using hn
    have : clashH S st a b c = false := by
      cases a <;> simp [isInt, isBl, clashH] at hn ⊢
    rw [this] at h
    exact h _
end
end DL

/-! S13: holds, tree_holds. -/
namespace DL
open PySem PySem.Spec PyProof.Rows L2
section
variable {S : Sg} {p : Bool} {Q : PyData → Env → Prop}
theorem mem_names_find {names : List Str} {nm : Str} : (names.findIdx? fun y => decide (y = nm)) = none ↔ nm ∉ names := by
  rw [List.findIdx?_eq_none_iff]
  constructor
  · intro h hm
    have := h nm hm
    simp at this
  · intro h x hx
    simp
    exact fun e => h (e ▸ hx)
theorem names_find {names : List Str} {nm : Str} {i : Nat} (h : (names.findIdx? fun y => decide (y = nm)) = some i) : names[i]? = some nm := by
  obtain ⟨hi, h1, -⟩ := List.findIdx?_eq_some_iff_getElem.mp h
  rw [decide_eq_true_eq] at h1
  rw [List.getElem?_eq_getElem hi, h1]
theorem ixt_ok {x : PyData} {ds : List PyData} : ixD (.tuple (x :: ds)) (.int 0) = some x := ixt_cons0
theorem holds_ok (hS : S.Ok) (hkl : ∀ k ∈ S.knots, k.key.length ≤ 1000) : ∀ (n : Nat) (p : Bool) (st : St) (t : PyData) {Q : PyData → Env → Prop}, StOk st → st.length = S.names.length → shp t = true → t.depth < n → (∀ ρ', Q (.bool (holdsD S n st t)) (.oi p 0 S.fs :: ρ')) →
    Wr (f_holds n [.oi p 0 S.fs, .fr (.list (sett st)), .fr t]) Q := by
  intro n
  induction n with
  | zero => intro p st t Q _ _ _ h; exact absurd h (Nat.not_lt_zero _)
  | succ n ih =>
    intro p st t Q hst hl ht hd h
    show Wr (fnN 0 (b_holds (f_split_holds (f_holds n))) _) Q
    refine wr_fnN ?_
    have n8 := hS.n8
    have k6 := hS.k6
    unfold b_holds
    simp
    refine ho_of (isi_tup_any t) ?_
    cases t with
    | tuple ds =>
      have sub := shp_sub ht
      simp [isTup]
      by_cases h3 : (ds.length : Int) < 3
      · rw [if_pos h3]
        have : holdsD S (n + 1) st (.tuple ds) = false := by
          unfold holdsD
          split
          · rename_i e; cases e; simp at h3
          · rename_i e; cases e; simp at h3
          · rfl
        rw [this] at h
        exact h _
      · rw [if_neg h3]
        obtain ⟨x, r, rfl⟩ : ∃ x r, ds = x :: r := by
          cases ds with
          | nil => simp at h3
          | cons x r => exact ⟨x, r, rfl⟩
        refine ho_of ixt_cons0 (ho_of (isi_str_any x) ?_)
        cases x with
        | str w =>
          have okw := shp_okS (sub (.str w) List.mem_cons_self).1
          simp [isStr]
          refine ho_of ixt_cons0 (ho_of (eqB_str okw (by decide +kernel)) ?_)
          by_cases hw : w = "clash"
          · subst hw
            simp
            by_cases h4 : ((r.length : Int) + 1) = 4
            · rw [if_pos h4]
              obtain ⟨a, b, c, rfl⟩ : ∃ a b c, r = [a, b, c] := by
                match r, h4 with
                | [a, b, c], _ => exact ⟨a, b, c, rfl⟩
                | [], h => simp at h
                | [a], h => simp at h
                | [a, b], h => simp at h
                | a :: b :: c :: d :: e, h => simp at h; omega
              refine clash_holds_ok (p := true) hS hst hl hkl (sub a (by simp)).1 (sub b (by simp)).1 (sub c (by simp)).1 fun ρ1 => ?_
              simp
              have : holdsD S (n + 1) st (.tuple [.str "clash", a, b, c]) = clashH S st a b c := by
                unfold holdsD
                simp
              rw [this] at h
              exact h _
            · rw [if_neg h4]
              refine ho_of ixt_cons0 (ho_of (eqB_str okw (by decide +kernel)) ?_)
              rw [show decide (("clash" : Str) = ("split" : Str)) = false from by decide +kernel]
              simp
              have : holdsD S (n + 1) st (.tuple (.str "clash" :: r)) = false := by
                unfold holdsD
                split
                · rename_i e; cases e; simp at h4
                · rename_i w' a b e; cases e
                  rw [if_neg (by decide +kernel)]
                · rfl
              rw [this] at h
              exact h _
          · rw [show decide (w = ("clash" : Str)) = false from by simpa using hw]
            simp
            refine ho_of ixt_cons0 (ho_of (eqB_str okw (by decide +kernel)) ?_)
            by_cases hs : w = "split"
            · subst hs
              simp
              by_cases h4 : ((r.length : Int) + 1) = 3
              · rw [if_pos h4]
                obtain ⟨a, b, rfl⟩ : ∃ a b, r = [a, b] := by
                  match r, h4 with
                  | [a, b], _ => exact ⟨a, b, rfl⟩
                  | [], h => simp at h
                  | [a], h => simp at h
                  | a :: b :: c :: e, h => simp at h; omega
                have hdef : holdsD S (n + 1) st (.tuple [.str "split", a, b]) = splitH S (holdsD S n) st a b := by
                  unfold holdsD
                  simp
                rw [hdef] at h
                have hsa := (sub a (by simp)).1
                have hsb := (sub b (by simp)).1
                have hdb := (sub b (by simp)).2
                show Wr (fnN 6 (b_split_holds (f_holds n)) _) _
                refine wr_fnN ?_
                unfold b_split_holds
                simp [-List.lookup_eq_none_iff]
                refine ho_of (isi_str_any a) ?_
                cases a with
                | str nm =>
                  simp [isStr, -List.lookup_eq_none_iff]
                  refine ho_of (ninB_strs (shp_okS hsa) hS.nameOk) ?_
                  simp [-List.lookup_eq_none_iff]
                  cases ef : (S.names.findIdx? fun y => decide (y = nm)) with
                  | none =>
                    have hnm := mem_names_find.mp ef
                    rw [if_neg hnm]
                    have : splitH S (holdsD S n) st (.str nm) b = false := by
                      unfold splitH
                      cases b <;> simp [ef]
                    rw [this] at h
                    exact h _
                  | some i =>
                    have hni := names_find ef
                    have hnm := List.mem_of_getElem? hni
                    have hin := (List.getElem?_eq_some_iff.mp hni).1
                    rw [if_pos hnm]
                    refine ho_of (isi_tup_any b) ?_
                    cases b with
                    | tuple ts =>
                      have subt := shp_sub hsb
                      simp [isTup, -List.lookup_eq_none_iff]
                      refine number_ok (p := true) hS hni fun ρ1 => ?_
                      simp [-List.lookup_eq_none_iff]
                      have his : i < st.length := by omega
                      refine ho_of (ix_sett his) ?_
                      simp [-List.lookup_eq_none_iff]
                      have hfr : free st i = decide (st[i] = none) := by simp [free, List.getElem?_eq_getElem his]
                      by_cases hf : st[i] = none
                      · rw [if_pos hf]
                        by_cases hln : ts.length = S.kinds.length
                        · rw [if_pos (by rw [hln])]
                          refine ho_of (zip2_def (x := sL S.kinds) (y := ts) rfl rfl) ?_
                          have ez := zip2T_map (fun s : Str => PyData.str s) (fun t : PyData => t) S.kinds ts
                          rw [List.map_id'] at ez
                          rw [show zip2T (sL S.kinds) ts = _ from ez]
                          have hval : splitH S (holdsD S n) st (.str nm) (.tuple ts) = (S.kinds.zip ts).all fun p => holdsD S n (st.set i (some p.1)) p.2 := by
                            unfold splitH
                            simp only [ef]
                            rw [hfr]
                            simp [hf, hln]
                          rw [hval] at h
                          refine wf_loop (fun p : Str × PyData => .tuple [.str p.1, p.2]) (fun pre ρ => (∃ c7 c8, ρ = [.oi true 0 S.fs, .fr (.list (sett st)), .fr (.tuple [.str "split", .str nm, .tuple ts]), .fr (.str "split"), .fr (.str nm), .fr (.tuple ts), .fr (.int (i : Nat)), c7, c8]) ∧ ∀ p ∈ pre, holdsD S n (st.set i (some p.1)) p.2 = true) (S.kinds.zip ts) _ ⟨⟨_, _, rfl⟩, by simp⟩ ?_ ?_
                          · rintro pre ⟨x, t⟩ post ρ hdd ⟨⟨c7, c8, rfl⟩, hpre⟩
                            have hm : (x, t) ∈ S.kinds.zip ts := by rw [← hdd]; simp
                            have hx : x ∈ S.kinds := (List.of_mem_zip hm).1
                            have htt : t ∈ ts := (List.of_mem_zip hm).2
                            refine ho_of rfl ?_
                            simp only [List.set]
                            simp [-List.lookup_eq_none_iff]
                            refine more_ok (p := true) his (by omega) fun ρ2 => ?_
                            simp [-List.lookup_eq_none_iff]
                            have hst' : StOk (st.set i (some x)) := fun o ho s e => by
                              rcases List.mem_or_eq_of_mem_set ho with z | z
                              · exact hst o z s e
                              · rw [z] at e
                                cases e
                                exact hS.kindOk x hx
                            have hdt := (subt t htt).2
                            refine ih true (st.set i (some x)) t hst' (by rw [List.length_set]; exact hl) (subt t htt).1 (by omega) fun ρ3 => ?_
                            simp
                            cases ev : holdsD S n (st.set i (some x)) t with
                            | true =>
                              simp
                              intro a b hab
                              rcases hab with z | ⟨rfl, rfl⟩
                              · exact hpre (a, b) z
                              · exact ev
                            | false =>
                              simp
                              have : ((S.kinds.zip ts).all fun p => holdsD S n (st.set i (some p.1)) p.2) = false := by
                                rw [List.all_eq_false]
                                exact ⟨(x, t), hm, by simp [ev]⟩
                              rw [this] at h
                              exact h _
                          · rintro ρ ⟨⟨c7, c8, rfl⟩, hall⟩
                            simp
                            have : ((S.kinds.zip ts).all fun p => holdsD S n (st.set i (some p.1)) p.2) = true := List.all_eq_true.mpr hall
                            rw [this] at h
                            exact h _
                        · rw [if_neg (by omega)]
                          have : splitH S (holdsD S n) st (.str nm) (.tuple ts) = false := by
                            unfold splitH
                            simp only [ef]
                            simp [hln]
                          rw [this] at h
                          exact h _
                      · rw [if_neg hf]
                        have : splitH S (holdsD S n) st (.str nm) (.tuple ts) = false := by
                          unfold splitH
                          simp only [ef]
                          rw [hfr]
                          simp [hf]
                        rw [this] at h
                        exact h _
                    | _ =>
                      simp [isTup, splitH] at h ⊢
                      exact h _
                | _ =>
                  simp [isStr, splitH] at h ⊢
                  exact h _
              · rw [if_neg h4]
                have : holdsD S (n + 1) st (.tuple (.str "split" :: r)) = false := by
                  unfold holdsD
                  split
                  · rename_i w' a b c e; cases e
                    rw [if_neg (by decide +kernel)]
                  · rename_i w' a b e; cases e; simp at h4
                  · rfl
                rw [this] at h
                exact h _
            · rw [show decide (w = ("split" : Str)) = false from by simpa using hs]
              simp
              have : holdsD S (n + 1) st (.tuple (.str w :: r)) = false := by
                unfold holdsD
                split
                · rename_i w' a b c e; cases e
                  rw [if_neg hw]
                · rename_i w' a b e; cases e
                  rw [if_neg hs]
                · rfl
              rw [this] at h
              exact h _
        | _ =>
          simp [isStr]
          have h' := h
          simp [holdsD] at h'
          exact h' _
    | _ =>
      simp [isTup]
      have h' := h
      simp [holdsD] at h'
      exact h' _
end
end DL

/-! S14: tree_holds; keys and worlds of the law. -/
namespace DL
open PySem PySem.Spec PyProof.Rows L2
section
variable {Q : PyData → Env → Prop} {r : Roll} {mp mk : Nat} {rels : List Rls}
/-- keys are as long as there are ladders, or short -/
def KeysShort (rels : List Rls) : Prop := ∀ e ∈ rels, ∀ g ∈ e.gs, g.1.length ≤ 1000
theorem knots_short (hs : KeysShort rels) : ∀ k ∈ (sgOf r rels).knots, k.key.length ≤ 1000 := by
  intro k hk
  obtain ⟨⟨e, at'⟩, hm, hk⟩ := List.mem_flatMap.mp hk
  obtain ⟨g, hg, rfl⟩ := List.mem_map.mp hk
  exact hs e (List.mem_of_getElem? (List.mem_zipIdx_iff_getElem?.mp hm)) g hg
theorem tree_holds_ok (hr : r.Ok mp mk) (h8 : mp ≤ 8) (h6 : mk ≤ 6) (he : RlssOk r rels) (hsh : KeysShort rels) {i : Nat} {nm x : Str} {t : PyData} (hi : (sgOf r rels).names[i]? = some nm) (hx : x ∈ r.kinds) (ht : shp t = true) (hd : t.depth < 20) (h : ∀ ρ', Q (.bool (holdsD (sgOf r rels) 20 (st1 (sgOf r rels) i x) t)) ρ') :
    Wr (f_tree_holds [.fr r.d, .fr (.list (rels.map Rls.d)), .fr (.str nm), .fr (.str x), .fr t]) Q := by
  have hS := sg_ok hr h8 h6 he
  have hin := (List.getElem?_eq_some_iff.mp hi).1
  have n8 := hS.n8
  refine wr_fnN ?_
  unfold b_tree_holds
  simp [w_make, -List.lookup_eq_none_iff]
  refine init_ok hr h8 he fun ρ1 => ?_
  simp [-List.lookup_eq_none_iff]
  refine number_ok hS hi fun ρ2 => ?_
  simp [-List.lookup_eq_none_iff]
  refine nobody_ok (fun ρ3 => ?_) hS
  simp [-List.lookup_eq_none_iff]
  have e0 : ((sgOf r rels).names.map fun _ => (none : Option Str)).length = (sgOf r rels).names.length := List.length_map _
  refine more_ok (st := (sgOf r rels).names.map fun _ => none) (by omega) (by omega) fun ρ4 => ?_
  simp [-List.lookup_eq_none_iff]
  refine holds_ok hS (knots_short hsh) 20 true (st1 (sgOf r rels) i x) t (st1_ok hS (hS.kindOk x hx)) st1_len ht hd fun ρ5 => ?_
  simp
  exact h _
/-! ### the law's keys and worlds -/
theorem world_ok {p : Bool} {b : List PyData} (hb : Bag b) (hr : r.Ok mp mk) (h8 : mp ≤ 8) (h6 : mk ≤ 6) (h : ∀ w b' ρ', Bag b' → w.length = r.pers.length → (∀ x ∈ w, x ∈ r.kinds) → Q (.tuple (sL w)) (.ol p b' :: ρ')) : Wr (f__law_world [.ol p b, .fr r.d]) Q := by
  have hper := hr.perM
  have hk0 := hr.kin0
  have hkM := hr.kinM
  refine wr_fnN ?_
  unfold b__law_world
  rw [show [Cell.ol p b, Cell.fr r.d] ++ List.replicate 1 .no = [.ol p b, .fr r.d, .no] from rfl]
  simp
  refine ho_of (z := .tuple (r.pers.map perD)) ixt_cons1 ?_
  simp
  refine ⟨by rw [lim_val]; omega, ?_⟩
  refine wr_lcGo _ (fun n acc ρ => ∃ b w, ρ = [.ol p b, .fr r.d, .no] ∧ Bag b ∧ acc = sL w ∧ w.length = n ∧ ∀ x ∈ w, x ∈ r.kinds) 0 [] _ ⟨b, [], rfl, hb, rfl, rfl, by simp⟩ ?_ ?_
  · rintro i d acc ρ hd ⟨b1, w, rfl, hb1, rfl, hl, hw⟩
    have e2 : ixD r.d (.int 2) = some (.tuple (sL r.kinds)) := by
      unfold Roll.d
      rw [show (2 : Int) = ((2 : Nat) : Int) from rfl, ixt_nat (by simp)]
      rfl
    simp
    refine ho_of e2 (ho_of e2 ?_)
    simp
    refine draw_ok (m := r.kinds.length) hb1 (by omega) (by omega) fun q b2 c h0 h1 hb2 => ?_
    obtain ⟨q, rfl⟩ := Int.eq_ofNat_of_zero_le h0
    have hq : q < r.kinds.length := by omega
    simp
    refine ho_of (z := .str r.kinds[q]) (by rw [ixt_nat (by rw [strs_len]; exact hq)]; simp [sL, List.getElem?_eq_getElem hq]) ?_
    refine ⟨hb2, w ++ [r.kinds[q]], by rw [strs_snoc], by simp [hl], fun x hx => ?_⟩
    rcases List.mem_append.mp hx with z | z
    · exact hw x z
    · rw [List.mem_singleton.mp z]
      exact List.getElem_mem hq
  · rintro xs ρ ⟨b1, w, rfl, hb1, e, hl, hw⟩
    simp at e hl
    subst e
    simp [backE]
    exact h w b1 _ hb1 hl hw
/-- levels as a tuple or as a list -/
def lvD : Bool → List Nat → PyData
  | true, lv => .tuple (nats lv)
  | false, lv => .list (nats lv)
theorem lv_ix {b : Bool} {lv : List Nat} {k : Nat} (h : k < lv.length) : ixD (lvD b lv) (.int (k : Nat)) = some (.int (lv[k] : Nat)) := by
  cases b
  · show ixD (.list (nats lv)) _ = _
    rw [ixl_nat (by rw [nats_len]; exact h)]
    simp [nats, List.getElem?_eq_getElem h]
  · show ixD (.tuple (nats lv)) _ = _
    rw [ixt_nat (by rw [nats_len]; exact h)]
    simp [nats, List.getElem?_eq_getElem h]
theorem lv_lenD {b : Bool} {lv : List Nat} : lenD [lvD b lv] = some (.int (lv.length : Nat)) := by
  cases b
  · show lenD [.list (nats lv)] = _
    rw [len1_list, nats_len]
  · show lenD [.tuple (nats lv)] = _
    rw [len1_tuple, nats_len]
theorem keyAt_get {a : List PyData} {b : KL} {c : List Nat} : ∀ {k : Nat} {L : PyData} {v : Key} {n : Nat}, a[k]? = some L → b[k]? = some v → c[k]? = some n → (keyAt a b c)[k]? = some (coK L v n) := by
  intro k L v n h1 h2 h3
  rw [keyAt_zip, List.getElem?_map]
  have : (a.zip (b.zip c))[k]? = some (L, v, n) := by
    rw [List.getElem?_zip_eq_some]
    exact ⟨h1, by rw [List.getElem?_zip_eq_some]; exact ⟨h2, h3⟩⟩
  rw [this]
  rfl
theorem lv_get : ∀ {a : List PyData} {b : List Nat} {i : Nat} {L : PyData} {k : Nat}, LvOk a b → a[i]? = some L → b[i]? = some k → k ≤ topN L
  | _ :: _, _ :: _, 0, _, _, h, e1, e2 => by
    simp only [List.getElem?_cons_zero, Option.some.injEq] at e1 e2
    subst e1 e2
    exact h.1
  | _ :: _, _ :: _, i + 1, _, _, h, e1, e2 => lv_get (i := i) h.2 (by simpa using e1) (by simpa using e2)
  | [], [], _, _, _, _, e1, _ => by simp at e1
  | [], _ :: _, _, _, _, h, _, _ => h.elim
  | _ :: _, [], _, _, _, h, _, _ => h.elim
theorem keys_ok {bl : Bool} {lv : List Nat} (hr : r.Ok mp mk) (h8 : mp ≤ 8) (hl : LvOk r.lads lv) (h : ∀ ρ', Q (.list ((r.keys lv).map kt)) ρ') : Wr (f__law_keys [.fr r.d, .fr (lvD bl lv)]) Q := by
  have hper := hr.perM
  have hlad := hr.lad4
  have ll := lv_len hl
  refine wr_fnN ?_
  unfold b__law_keys
  simp
  refine ho_of (z := .tuple (r.pers.map perD)) ixt_cons1 ?_
  simp
  refine wf_loop perD (fun pre ρ => ∃ c3 c4, ρ = [.fr r.d, .fr (lvD bl lv), .ol false ((pre.map fun p => keyAt r.lads p.2 lv).map kt), c3, c4, .no]) r.pers _ ⟨_, _, rfl⟩ ?_ ?_
  · rintro pre pr post ρ hd ⟨c3, c4, rfl⟩
    have hp : pr ∈ r.pers := by rw [← hd]; simp
    have hpub := hr.pubs pr hp
    have lp := pubs_len hpub
    have hlen := congrArg List.length hd
    rw [List.length_append, List.length_cons] at hlen
    refine ho_of (by unfold perD; simp [List.set]; exact rfl) ?_
    simp
    refine ho_of lv_lenD ?_
    rw [range1_int (by omega) (by omega)]
    simp
    refine ⟨by rw [lim_val]; omega, ?_⟩
    have e0 : (ixD r.d (.int 0)) = some (.tuple r.lads) := ixt_cons0
    refine wr_map (fun k : Nat => .int (k : Nat)) (fun k => keyD (((keyAt r.lads pr.2 lv)[k]?).getD (.inl 0))) (List.range lv.length) (by simp) (fun k hk => ?_) ?_
    · rw [List.mem_range] at hk
      have h1 : k < r.lads.length := by omega
      have h2 : k < pr.2.length := by omega
      simp
      refine ho_of e0 (ho_of (z := r.lads[k]) (by rw [ixt_nat h1, List.getElem?_eq_getElem h1]) ?_)
      refine ho_of (z := keyD pr.2[k]) (by show ixD (.tuple (keys pr.2)) _ = _; rw [ixt_nat (by rw [keys_len]; exact h2)]; simp [keys, List.getElem?_eq_getElem h2]) (ho_of (lv_ix hk) ?_)
      refine lcoarse_ok (hr.lads _ (List.getElem_mem h1)) (pubs_get hpub (List.getElem?_eq_getElem h1) (List.getElem?_eq_getElem h2)) (lv_get hl (List.getElem?_eq_getElem h1) (List.getElem?_eq_getElem hk)) fun ρ' => ?_
      rw [keyAt_get (List.getElem?_eq_getElem h1) (List.getElem?_eq_getElem h2) (List.getElem?_eq_getElem hk)]
      simp
    · simp [backE]
      have ek : (List.range lv.length).map (fun k => keyD (((keyAt r.lads pr.2 lv)[k]?).getD (.inl 0))) = keys (keyAt r.lads pr.2 lv) := by
        have hkl := keyAt_len hpub hl
        refine List.ext_getElem (by simp [hkl, ll]) fun k h1 h2 => ?_
        simp [keys] at h1 h2 ⊢
        rw [List.getElem?_eq_getElem h2]
        rfl
      rw [ek]
      refine ho_of (if_pos (by rw [lim_val]; simp; omega)) ?_
      simp [kt]
  · rintro ρ ⟨c3, c4, rfl⟩
    simp only [ws_ret, we_var, List.getElem?_cons_succ, List.getElem?_cons_zero, atVar_ol, wr_ok]
    exact h _
end
end DL

/-! L50: the law k50, plainly. -/
namespace DL
open PySem PySem.Spec PyProof.Rows L2
theorem roll_ix0 (r : Roll) : ixD r.d (.int 0) = some (.tuple r.lads) := ixt_cons0
theorem roll_ix1 (r : Roll) : ixD r.d (.int 1) = some (.tuple (r.pers.map perD)) := ixt_cons1
theorem roll_ix2 (r : Roll) : ixD r.d (.int 2) = some (.tuple (sL r.kinds)) := by
  unfold Roll.d
  rw [show (2 : Int) = ((2 : Nat) : Int) from rfl, ixt_nat (by simp)]
  rfl
theorem lv_snoc : ∀ {a : List PyData} {b : List Nat} {L : PyData} {k : Nat}, LvOk a b → k ≤ topN L → LvOk (a ++ [L]) (b ++ [k])
  | [], [], _, _, _, hv => ⟨hv, trivial⟩
  | _ :: _, _ :: _, _, _, h, hv => ⟨h.1, lv_snoc h.2 hv⟩
  | [], _ :: _, _, _, h, _ => h.elim
  | _ :: _, [], _, _, h, _ => h.elim
theorem nats_snoc {l : List Nat} {k : Nat} : nats (l ++ [k]) = nats l ++ [.int (k : Nat)] := by simp [nats]
section
variable {Q : PyData → Env → Prop} {r : Roll} {mp mk : Nat} {rels : List Rls}
theorem empty_ok {p : Bool} {b : List PyData} (hb : Bag b) (hr : r.Ok mp mk) (h : ∀ lv b' ρ', Bag b' → LvOk r.lads lv → Q (Rls.d ⟨lv, []⟩) (.ol p b' :: ρ')) : Wr (f__law_empty [.ol p b, .fr r.d]) Q := by
  have h4 := hr.lad4
  refine wr_fnN ?_
  unfold b__law_empty
  rw [show [Cell.ol p b, Cell.fr r.d] ++ List.replicate 2 .no = [.ol p b, .fr r.d, .no, .no] from rfl]
  simp
  refine ho_of (roll_ix0 r) ?_
  simp
  refine ⟨by rw [lim_val]; omega, ?_⟩
  refine wr_lcGo _ (fun n acc ρ => ∃ b lv, ρ = [.ol p b, .fr r.d, .no, .no] ∧ Bag b ∧ acc = nats lv ∧ LvOk (r.lads.take n) lv) 0 [] _ ⟨b, [], rfl, hb, rfl, trivial⟩ ?_ ?_
  · rintro i L acc ρ hd ⟨b1, lv, rfl, hb1, rfl, hl⟩
    have hL := hr.lads L (List.mem_of_getElem? hd)
    have ht := top_is hL
    rw [Nat.zero_add] at hl ⊢
    simp
    refine top_ok hL fun ρ1 => ?_
    simp
    refine draw_ok (m := (topN L : Int) + 1) hb1 (by omega) (by omega) fun q b2 c h0 h1 hb2 => ?_
    obtain ⟨q, rfl⟩ := Int.eq_ofNat_of_zero_le h0
    simp
    refine ⟨hb2, lv ++ [q], by rw [nats_snoc], ?_⟩
    rw [List.take_add_one, hd]
    exact lv_snoc hl (by omega)
  · rintro xs ρ ⟨b1, lv, rfl, hb1, e, hl⟩
    simp at e hl
    subst e
    simp [backE]
    exact h lv b1 _ hb1 hl
/-! trees that don't hold where there are no groups -/
theorem clash_no {S : Sg} (h0 : S.knots = []) {a b c : PyData} {n : Nat} {st : St} : holdsD S n st (.tuple [.str "clash", a, b, c]) = false := by
  cases n with
  | zero => rfl
  | succ n =>
    simp [holdsD]
    unfold clashH
    cases a <;> cases c <;> simp [h0]
theorem split_no {S : Sg} (hk : S.kinds ≠ []) {n m : Nat} {st : St} {nm : Str} {t : PyData} (hm : m = S.kinds.length) (h : ∀ st, holdsD S n st t = false) : holdsD S (n + 1) st (.tuple [.str "split", .str nm, .tuple (List.replicate m t)]) = false := by
  have e : holdsD S (n + 1) st (.tuple [.str "split", .str nm, .tuple (List.replicate m t)]) = splitH S (holdsD S n) st (.str nm) (.tuple (List.replicate m t)) := by
    unfold holdsD
    simp
  rw [e]
  unfold splitH
  simp only
  cases S.names.findIdx? fun y => decide (y = nm) with
  | none => rfl
  | some i =>
    simp only [Bool.and_eq_false_iff]
    right
    rw [List.all_eq_false]
    cases ek : S.kinds with
    | nil => exact absurd ek hk
    | cons x r =>
      rw [hm, ek]
      refine ⟨(x, t), by simp [List.replicate_succ], by simp [h]⟩
theorem strs_no {S : Sg} {n : Nat} {st : St} {w : List Str} : holdsD S n st (.tuple (sL w)) = false := by
  cases n with
  | zero => rfl
  | succ n =>
    unfold holdsD
    split
    · rename_i w' a b c e
      split
      · match w, e with
        | [w1, w2, w3, w4], e =>
          cases e
          rfl
      · rfl
    · rename_i w' a b e
      split
      · match w, e with
        | [w1, w2, w3], e =>
          cases e
          rfl
      · rfl
    · rfl
theorem can_rep {d : PyData} (h : d.canLay0 = true) : ∀ m, PyData.canLayAll0 (List.replicate m d) = true
  | 0 => by simp [PyData.canLayAll0]
  | m + 1 => by simp [List.replicate_succ, PyData.canLayAll0, h, can_rep h m]
theorem dep_rep {d : PyData} : ∀ m, PyData.depthAll (List.replicate m d) ≤ d.depth
  | 0 => by simp [PyData.depthAll]
  | m + 1 => by
    simp only [List.replicate_succ, PyData.depthAll]
    exact Nat.max_le.mpr ⟨Nat.le_refl _, dep_rep m⟩
/-- a tree that can be compared, of this depth -/
def TOk (n : Nat) (d : PyData) : Prop := d.canLay0 = true ∧ d.depth ≤ n
theorem TOk.shp {n : Nat} {d : PyData} (h : TOk n d) (hn : n ≤ 64) : shp d = true := by
  simp [SeqAt.shaped, h.1]
  exact Nat.le_trans h.2 hn
theorem tok_split {n m : Nat} {nm : Str} {t : PyData} (hn : okS nm = true) (h : TOk n t) : TOk (n + 2) (.tuple [.str "split", .str nm, .tuple (List.replicate m t)]) := by
  have hs : PyData.strOk nm = true := by simpa [okS] using hn
  have h2 : PyData.strOk ("split" : Str) = true := by decide +kernel
  have := dep_rep (d := t) m
  have h3 := h.2
  refine ⟨by simp [PyData.canLay0, PyData.canLayAll0, hs, h2, can_rep h.1], ?_⟩
  simp [PyData.depth, PyData.depthAll]
  omega
theorem tok_clash {key : KL} {x : Str} (hk : ∀ k ∈ key, okK k = true) (hx : okS x = true) : TOk 2 (.tuple [.str "clash", .int 0, kt key, .str x]) := by
  have hs : PyData.strOk x = true := by simpa [okS] using hx
  have h2 : PyData.strOk ("clash" : Str) = true := by decide +kernel
  refine ⟨by simp [PyData.canLay0, PyData.canLayAll0, hs, h2, kt, can_keys hk], ?_⟩
  simp [kt, PyData.depth, PyData.depthAll, dep_keys]
theorem tok_strs {w : List Str} (hw : ∀ x ∈ w, okS x = true) : TOk 1 (.tuple (sL w)) := by
  refine ⟨by simp [PyData.canLay0, can_strs hw], ?_⟩
  simp [PyData.depth, dep_strs]
theorem mul_rep {t : PyData} {m : Nat} (h1 : 1 ≤ m) (h2 : m ≤ 1000) : mulD (.tuple [t]) (.int (m : Nat)) = some (.tuple (List.replicate m t)) := by
  refine (if_pos ⟨by omega, by omega, by simp⟩).trans ?_
  simp
theorem mul_repL {t : PyData} {m : Nat} (h2 : m ≤ 1000) : mulD (.list [t]) (.int (m : Nat)) = some (.list (List.replicate m t)) := by
  refine (if_pos ⟨by omega, by omega, by simp⟩).trans ?_
  simp
theorem fit_const {S : Sg} (h0 : S.knots = []) {x : Str} (hx : x ∈ S.kinds) : FitW S (S.names.map fun _ => x) := by
  refine ⟨by simp, fun y hy => ?_, fun k hk => ?_⟩
  · obtain ⟨_, _, rfl⟩ := List.mem_map.mp hy
    exact hx
  · rw [h0] at hk
    cases hk
end
end DL

/-! L50b: _law_held of k50. -/
namespace DL
open PySem PySem.Spec PyProof.Rows L2
theorem look_mh : ∀ {names : List Str} {res : List (List Str)} {i : Nat} {nm : Str} {l : List Str}, names.Nodup → names[i]? = some nm → res[i]? = some l → lookD ((names.zip res).map fun p => (PyData.str p.1, PyData.list (sL p.2))) (.str nm) = some (.list (sL l))
  | [], _, _, _, _, _, h, _ => by simp at h
  | _ :: _, [], _, _, _, _, _, h => by simp at h
  | a :: names, f :: fl, 0, nm, l, _, h1, h2 => by
    simp at h1 h2
    subst h1 h2
    unfold lookD
    rw [List.zip_cons_cons, List.map_cons, List.find?_cons_of_pos (by rw [eqv_str]; simp)]
    rfl
  | a :: names, f :: fl, i + 1, nm, l, nd, h1, h2 => by
    have n1 := List.nodup_cons.mp nd
    have ih := look_mh (i := i) n1.2 (by simpa using h1) (by simpa using h2)
    unfold lookD at ih ⊢
    rw [List.zip_cons_cons, List.map_cons, List.find?_cons_of_neg, ih]
    rw [eqv_str]
    simp
    exact fun e => n1.1 (e ▸ List.mem_of_getElem? (by simpa using h1))
theorem mh_keys : ∀ {names : List Str} {res : List (List Str)}, res.length = names.length → (((names.zip res).map fun p => (PyData.str p.1, PyData.list (sL p.2))).map (·.1)) = sL names
  | [], _, _ => by simp
  | _ :: _, [], h => by simp at h
  | a :: names, f :: fl, h => by
    simp only [List.zip_cons_cons, List.map_cons, strs_cons]
    rw [mh_keys (by simpa using h)]
theorem sorted_uniq {a b : List Str} (ha : a.Nodup) (hb : b.Nodup) (sa : a.Pairwise (fun x y => sle x y = true)) (sb : b.Pairwise (fun x y => sle x y = true)) (h : ∀ x, x ∈ a ↔ x ∈ b) : a = b :=
  pw_perm_eq sa sb ((List.perm_ext_iff_of_nodup ha hb).mpr h)
/-- where there are no groups -/
structure Bare (r : Roll) (rels : List Rls) : Prop where
  each : ∀ e ∈ rels, LvOk r.lads e.lv ∧ e.gs = []
  few : rels.length ≤ 10
section
variable {r : Roll} {mp mk : Nat} {rels : List Rls}
theorem Bare.full (h : Bare r rels) : RelsFull r.lads rels := ⟨fun e he => by
  obtain ⟨h1, h2⟩ := h.each e he
  exact ⟨h1, by rw [h2]; simp, by rw [h2]; simp, by rw [h2]; simp, by rw [h2]; simp, by rw [h2]; simp, by rw [h2]; simp, by rw [h2]; simp⟩, h.few⟩
theorem Bare.knots (h : Bare r rels) : knotsOf r rels = [] := by
  unfold knotsOf
  rw [List.flatMap_eq_nil_iff]
  rintro ⟨e, i⟩ hm
  have := (h.each e (List.mem_of_getElem? (List.mem_zipIdx_iff_getElem?.mp hm))).2
  unfold knotsAt
  rw [this]
  rfl
theorem Bare.short (h : Bare r rels) : KeysShort rels := fun e he g hg => by
  rw [(h.each e he).2] at hg
  cases hg
theorem Bare.fit (h : Bare r rels) (w : List Str) : fitB r rels w = true := by
  unfold fitB
  rw [h.knots]
  rfl
theorem nats_rep (n : Nat) : List.replicate n (PyData.int 0) = nats (List.replicate n 0) := by
  unfold nats
  rw [List.map_replicate]
  rfl
theorem lv_zero : ∀ (l : List PyData), LvOk l (List.replicate l.length 0)
  | [] => trivial
  | L :: r => ⟨Nat.zero_le _, lv_zero r⟩
theorem held_ok {p : Bool} {b : List PyData} {Q : PyData → Env → Prop} (hb : Bag b) (h : ∀ ρ', Q (.bool true) ρ') : Wr (f__law_held [.ol p b]) Q := by
  refine wr_fnN ?_
  unfold b__law_held
  rw [show [Cell.ol p b] ++ List.replicate 15 .no = [.ol p b, .no, .no, .no, .no, .no, .no, .no, .no, .no, .no, .no, .no, .no, .no, .no] from rfl]
  simp only [ws_seq, ws_set]
  simp only [w_callF, wa_own, wa_cons, we_c, wa_nil]
  simp
  refine roll_ok (x := 8) (y := 6) hb (by decide) (by decide) fun r b1 ρ1 hr hb1 => ?_
  have hper := hr.perM
  have hper0 := hr.per0
  have hkM := hr.kinM
  have hk0 := hr.kin0
  have hkne : r.kinds ≠ [] := fun e => by rw [e] at hk0; simp at hk0
  simp
  refine draw_ok (m := 6) hb1 (by decide) (by decide) fun n b2 c h0 h1 hb2 => ?_
  obtain ⟨n, rfl⟩ := Int.eq_ofNat_of_zero_le h0
  simp
  rw [range1_int (by omega) (by omega)]
  simp
  refine ⟨by rw [lim_val]; omega, ?_⟩
  refine wr_lcGo _ (fun i acc ρ => ∃ b rels, ρ = [.ol p b, .fr r.d, .no, .no, .no, .no, .no, .no, .no, .no, .no, .no, .no, .no, .no, .no] ∧ Bag b ∧ acc = rels.map Rls.d ∧ rels.length = i ∧ ∀ e ∈ rels, LvOk r.lads e.lv ∧ e.gs = []) 0 [] _ ⟨b2, [], rfl, hb2, rfl, rfl, by simp⟩ ?_ ?_
  · rintro i d acc ρ hd ⟨b3, rels, rfl, hb3, rfl, hl, hE⟩
    simp
    refine empty_ok hb3 hr fun lv b4 ρ2 hb4 hlv => ?_
    simp
    refine ⟨hb4, rels ++ [⟨lv, []⟩], by simp, by simp [hl], fun e he => ?_⟩
    rcases List.mem_append.mp he with z | z
    · exact hE e z
    · rw [List.mem_singleton.mp z]
      exact ⟨hlv, rfl⟩
  rintro xs ρ ⟨b3, rels, rfl, hb3, e, hl, hE⟩
  simp at e hl
  subst e
  have bare : Bare r rels := ⟨hE, by omega⟩
  have full := bare.full
  have he := full.ok hr
  have hS := sg_ok hr (by decide) (by decide) he
  have hK : (sgOf r rels).knots = [] := bare.knots
  simp [backE]
  refine world_ok hb3 hr (by decide) (by decide) fun w b4 ρ2 hb4 hwl hwk => ?_
  simp
  have hkinds : (sgOf r rels).kinds = r.kinds := rfl
  obtain ⟨x0, hx0⟩ : ∃ x, x ∈ r.kinds := List.exists_mem_of_ne_nil _ hkne
  obtain ⟨res, ρ3, mh, em⟩ : ∃ res ρ3, MH (sgOf r rels) res ∧ f_may_have [.fr r.d, .fr (.list (rels.map Rls.d))] = .ok (mhD (sgOf r rels).names res) ρ3 := by
    rcases may_have_any hr (by decide) (by decide) he with ⟨-, res, ρ3, mh, em⟩ | ⟨hno, -⟩
    · exact ⟨res, ρ3, mh, em⟩
    · exact absurd (fit_const hK (hkinds ▸ hx0)) (hno _)
  rw [em]
  have hres : ∀ l ∈ res, l = r.kinds := fun l hl => by
    obtain ⟨j, hj, ej⟩ := List.mem_iff_getElem.mp hl
    refine sorted_uniq (mh.nd l hl) hr.knd (mh.srt l hl) hr.ksrt fun x => ?_
    rw [mh.iff j l (by rw [List.getElem?_eq_getElem hj, ej]) x]
    constructor
    · rintro ⟨w, fw, ew⟩
      exact fw.2.1 x (List.mem_of_getElem? ew)
    · intro hx
      refine ⟨_, fit_const hK (hkinds ▸ hx), ?_⟩
      have hj2 : j < (sgOf r rels).names.length := by rw [← mh.len]; exact hj
      rw [List.getElem?_map, List.getElem?_eq_getElem hj2]
      rfl
  have hnl : (sgOf r rels).names.length = r.pers.length := List.length_map _
  have hkeys := mh_keys (names := (sgOf r rels).names) (res := res) mh.len
  have okn : ∀ s ∈ (sgOf r rels).names, okS s = true := hS.nameOk
  generalize hkv : ((sgOf r rels).names.zip res).map (fun p => (PyData.str p.1, PyData.list (sL p.2))) = kv at hkeys
  have hmd : mhD (sgOf r rels).names res = .dict kv := by unfold mhD; rw [hkv]
  rw [hmd]
  have hlook : ∀ nm ∈ (sgOf r rels).names, lookD kv (.str nm) = some (.list (sL r.kinds)) := fun nm hm => by
    obtain ⟨j, hj, ej⟩ := List.mem_iff_getElem.mp hm
    have hj2 : j < res.length := by rw [mh.len]; exact hj
    have := look_mh hS.nd (by rw [List.getElem?_eq_getElem hj, ej]) (List.getElem?_eq_getElem hj2)
    rw [hkv, hres _ (List.getElem_mem hj2)] at this
    exact this
  have hkne' : kv ≠ [] := fun e => by
    rw [e] at hkeys
    have := congrArg List.length hkeys
    simp at this
    omega
  simp only [wr_ok, dictOf_dict, ho_some]
  rw [if_neg hkne']
  refine fits_ok (w := w) hr (by decide) full hwl (fun x hx => nameS_ok (hr.kindOk x (hwk x hx))) fun ρ4 => ?_
  rw [bare.fit]
  simp
  have esort : sortedD [.dict kv] = some (.list (sL (srt (sgOf r rels).names))) := by
    show sortL (kv.map (·.1)) = _
    rw [hkeys]
    exact sortL_strs okn (by rw [lim_val]; omega)
  refine ho_of esort (ho_of (roll_ix1 r) ?_)
  simp
  refine ⟨by rw [lim_val]; omega, ?_⟩
  refine wr_map perD (fun p => .str p.1) r.pers (by simp) (fun q hq => by simp [perD]; exact ho_of ixt_cons0 (by simp)) ?_
  simp
  rw [names_sL r rels]
  refine ho_of (sortL_strs okn (by rw [lim_val]; omega)) ?_
  refine ho_of (neB_list (fun y hy => okn y (mem_srt.mp hy)) (fun y hy => okn y (mem_srt.mp hy))) ?_
  simp
  refine ho_of (z := sL (sgOf r rels).names) (by show some (kv.map (·.1)) = _; rw [hkeys]) ?_
  refine wf_loop (fun s : Str => .str s) (fun _ ρ => ∃ c5, ρ = [.ol p b4, .fr r.d, .fr (.list (rels.map Rls.d)), .fr (.tuple (sL w)), .fr (.dict kv), c5, .no, .no, .no, .no, .no, .no, .no, .no, .no, .no]) (sgOf r rels).names _ ⟨_, rfl⟩ ?_ ?_
  · rintro pre nm post ρ hd ⟨c5, rfl⟩
    have hm : nm ∈ (sgOf r rels).names := by rw [← hd]; simp
    refine ho_of rfl ?_
    simp only [List.set]
    simp
    refine ho_of (z := .list (sL r.kinds)) (show (if (keyOf (.str nm)).isSome = true then lookD kv (.str nm) else none) = _ from (if_pos rfl).trans (hlook nm hm)) ?_
    refine ho_of (roll_ix2 r) ?_
    simp
    have okk : ∀ y ∈ r.kinds, okS y = true := fun y hy => nameS_ok (hr.kindOk y hy)
    refine ho_of (neB_list okk okk) ?_
    simp
  rintro ρ ⟨c5, rfl⟩
  have okk : ∀ y ∈ r.kinds, okS y = true := fun y hy => nameS_ok (hr.kindOk y hy)
  simp
  refine ho_of (roll_ix1 r) ?_
  simp
  refine draw_ok (m := r.pers.length) hb4 (by omega) (by omega) fun i b5 c g0 g1 hb5 => ?_
  obtain ⟨i, rfl⟩ := Int.eq_ofNat_of_zero_le g0
  have hi : i < r.pers.length := by omega
  simp
  refine ho_of (roll_ix1 r) ?_
  have e1 : ixD (.tuple (r.pers.map perD)) (.int (i : Nat)) = some (perD r.pers[i]) := by
    rw [ixt_nat (by rw [List.length_map]; exact hi)]
    simp [List.getElem?_eq_getElem hi]
  refine ho_of e1 (ho_of ixt_cons0 ?_)
  refine ho_of (roll_ix2 r) (ho_of (roll_ix2 r) ?_)
  simp
  refine draw_ok (m := r.kinds.length) hb5 (by omega) (by omega) fun j b6 c g2 g3 hb6 => ?_
  obtain ⟨j, rfl⟩ := Int.eq_ofNat_of_zero_le g2
  have hj : j < r.kinds.length := by omega
  simp
  refine ho_of (z := .str r.kinds[j]) (by rw [ixt_nat (by rw [strs_len]; exact hj)]; simp [sL, List.getElem?_eq_getElem hj]) ?_
  have hni : (sgOf r rels).names[i]? = some r.pers[i].1 := by
    show (r.pers.map (·.1))[i]? = _
    rw [List.getElem?_map, List.getElem?_eq_getElem hi]
    rfl
  have hxj := List.getElem_mem hj
  refine wot_ok hr (by decide) (by decide) he hni hxj fun d ρ5 ht => ?_
  obtain ⟨wt, rfl, fwt, ewt⟩ : ∃ wt, d = worldD wt ∧ FitW (sgOf r rels) wt ∧ wt[i]? = some r.kinds[j] := by
    rcases ht with z | ⟨t, rfl, hold⟩
    · exact z
    · refine False.elim (hold_none hS hold st1_len _ (fit_const (S := sgOf r rels) hK hxj) (st1_ext.mpr fun hin => ?_))
      rw [List.getElem?_map, List.getElem?_eq_getElem hin]
      rfl
  have hwtl : wt.length = r.pers.length := by rw [fwt.1, hnl]
  have okwt : ∀ x ∈ wt, okS x = true := fun x hx => okk x (fwt.2.1 x hx)
  refine ho_of (by simp [worldD, gN]; rfl) ?_
  simp
  refine ho_of (neB_str (by decide +kernel) (by decide +kernel)) ?_
  simp
  have e2 : ixD (.tuple (sL wt)) (.int (i : Nat)) = some (.str r.kinds[j]) := by
    rw [ixt_nat (by rw [strs_len]; omega)]
    simp [sL, ewt]
  refine ho_of e2 (ho_of (neB_str (okk _ hxj) (okk _ hxj)) ?_)
  simp
  refine fits_ok (w := wt) hr (by decide) full hwtl okwt fun ρ6 => ?_
  rw [bare.fit]
  simp
  refine ho_of (roll_ix0 r) ?_
  simp
  refine ho_of (mul_repL (by have := hr.lad4; omega)) ?_
  rw [nats_rep]
  refine keys_ok (bl := false) hr (by decide) (lv_zero r.lads) fun ρ7 => ?_
  have hkl : (r.keys (List.replicate r.lads.length 0)).length = r.pers.length := List.length_map _
  have e3 : ixD (.list ((r.keys (List.replicate r.lads.length 0)).map kt)) (.int (i : Nat)) = some (kt (keyAt r.lads r.pers[i].2 (List.replicate r.lads.length 0))) := by
    rw [ixl_nat (by rw [List.length_map, hkl]; exact hi)]
    simp [Roll.keys, List.getElem?_eq_getElem hi]
  refine ho_of e3 ?_
  have hm1 : 1 ≤ r.kinds.length := hk0
  have hm2 : r.kinds.length ≤ 1000 := by omega
  have okkey : ∀ k ∈ keyAt r.lads r.pers[i].2 (List.replicate r.lads.length 0), okK k = true := keyAt_ok hr.lads (hr.pubs _ (List.getElem_mem hi)) (lv_zero _)
  generalize keyAt r.lads r.pers[i].2 (List.replicate r.lads.length 0) = key at okkey
  have tk := tok_clash okkey (okk _ hxj)
  have hcl : ∀ n st, holdsD (sgOf r rels) n st (.tuple [.str "clash", .int 0, kt key, .str r.kinds[j]]) = false := fun n st => clash_no hK
  generalize hcd : (PyData.tuple [.str "clash", .int 0, kt key, .str r.kinds[j]]) = cl at tk hcl
  have okw : ∀ nm ∈ (sgOf r rels).names, okS nm = true := okn
  have okn1 := okn _ (List.mem_of_getElem? hni)
  have okno : okS "nobody" = true := by decide +kernel
  have h0p : (0 : Nat) < r.pers.length := hper0
  have oko : okS r.pers[0].1 = true := okn _ (by show _ ∈ r.pers.map (·.1); exact List.mem_map_of_mem (List.getElem_mem h0p))
  have hks : r.kinds.length = (sgOf r rels).kinds.length := rfl
  refine ho_of (roll_ix2 r) ?_
  simp
  refine ho_of (mul_rep hm1 hm2) (ho_of (roll_ix2 r) ?_)
  simp
  refine ho_of (mul_rep hm1 hm2) (ho_of (roll_ix1 r) ?_)
  have e5 : ixD (.tuple (r.pers.map perD)) (.int 0) = some (perD r.pers[0]) := by
    rw [show (0 : Int) = ((0 : Nat) : Int) from rfl, ixt_nat (by rw [List.length_map]; exact h0p)]
    simp [List.getElem?_eq_getElem h0p]
  refine ho_of e5 (ho_of ixt_cons0 (ho_of (roll_ix2 r) ?_))
  simp
  refine ho_of (mul_rep hm1 hm2) (ho_of (roll_ix2 r) ?_)
  simp
  refine ho_of (mul_repL hm2) ?_
  simp
  refine ho_of (if_pos (by simp [lim_val])) ?_
  simp
  refine ⟨by simp [lim_val], ?_⟩
  have tkE : TOk 0 (.tuple []) → True := fun _ => trivial
  have tkN : TOk 1 (.tuple []) := ⟨by simp [PyData.canLay0, PyData.canLayAll0], by simp [PyData.depth, PyData.depthAll]⟩
  have all6 : ∀ t ∈ [cl, .tuple [.str "split", .str r.pers[i].1, .tuple (List.replicate r.kinds.length cl)], .tuple [.str "split", .str "nobody", .tuple (List.replicate r.kinds.length cl)], .tuple (sL wt), .tuple [], .tuple [.str "split", .str r.pers[0].1, .tuple (List.replicate r.kinds.length (.tuple [.str "split", .str r.pers[0].1, .tuple (List.replicate r.kinds.length cl)]))]],
      TOk 10 t ∧ ∀ st, holdsD (sgOf r rels) 20 st t = false := by
    have up : ∀ {n t}, TOk n t → n ≤ 10 → TOk 10 t := fun h hn => ⟨h.1, Nat.le_trans h.2 hn⟩
    intro t ht
    simp only [List.mem_cons, List.not_mem_nil, or_false] at ht
    rcases ht with rfl | rfl | rfl | rfl | rfl | rfl
    · exact ⟨up tk (by decide), fun st => hcl 20 st⟩
    · exact ⟨up (tok_split okn1 tk) (by decide), fun st => split_no (n := 19) hkne hks fun st => hcl 19 st⟩
    · exact ⟨up (tok_split okno tk) (by decide), fun st => split_no (n := 19) hkne hks fun st => hcl 19 st⟩
    · exact ⟨up (tok_strs okwt) (by decide), fun st => strs_no⟩
    · exact ⟨up tkN (by decide), fun st => strs_no (w := [])⟩
    · exact ⟨up (tok_split oko (tok_split oko tk)) (by decide), fun st => split_no (n := 19) hkne hks fun st => split_no (n := 18) hkne hks fun st => hcl 18 st⟩
  have hlist : ∀ l : List PyData, (∀ t ∈ l, TOk 10 t ∧ ∀ st, holdsD (sgOf r rels) 20 st t = false) → ∀ {ρ : Env} {Q' : List PyData → Env → Prop}, (∃ c0 c3 c4 c6 c8 c9 c10 c11 c12 c13 c14 : Cell, ρ = [c0, .fr r.d, .fr (.list (rels.map Rls.d)), c3, c4, .fr (.str r.pers[i].1), c6, .fr (.str r.kinds[j]), c8, c9, c10, c11, c12, c13, c14, .no]) → Q' (l.map fun _ => PyData.bool false) ρ → Wr (lcGo (gN 15) tYesD (eCallF 5 (f_tree_holds) (avCons (eVar 1) (avCons (eVar 2) (avCons (eVar 5) (avCons (eVar 7) (avCons (eVar 15) avNil)))))) [15] l ρ) Q' := by
    rintro l hl ρ Q' ⟨c0, c3, c4, c6, c8, c9, c10, c11, c12, c13, c14, rfl⟩ q
    have := wr_map (g := gN 15) (tt := tYesD) (te := eCallF 5 (f_tree_holds) (avCons (eVar 1) (avCons (eVar 2) (avCons (eVar 5) (avCons (eVar 7) (avCons (eVar 15) avNil)))))) (vs := [15]) (fun t : PyData => t) (fun _ => PyData.bool false) (ρ := [c0, .fr r.d, .fr (.list (rels.map Rls.d)), c3, c4, .fr (.str r.pers[i].1), c6, .fr (.str r.kinds[j]), c8, c9, c10, c11, c12, c13, c14, .no]) l (Q := Q') (by simp) (fun t ht => by
      obtain ⟨h1, h2⟩ := hl t ht
      simp
      refine tree_holds_ok hr (by decide) (by decide) he bare.short hni hxj (h1.shp (by decide)) (Nat.lt_of_le_of_lt h1.2 (by decide)) fun ρ' => ?_
      rw [h2]) q
    rw [List.map_id'] at this
    exact this
  refine hlist _ all6 ⟨_, _, _, _, _, _, _, _, _, _, _, rfl⟩ ?_
  simp [backE]
  refine ho_of (any_map (fun _ : Nat => false) [0, 1, 2, 3, 4, 5]) ?_
  simp
  exact h _
end
/-! ### the law -/
theorem bag_ok {cell : Int} {k : Nat} {Q : List PyData → Env → Prop} (h : ∀ b ρ', Bag b → Q b ρ') : Wr (f__law_bag [.fr (.int cell), .fr (.int (k : Nat))]) Q := by
  refine wr_fnF ?_
  unfold b__law_bag
  simp
  refine ho_of (z := .int (10 ^ 18)) (show (if CPow 10 18 then some (PyData.int (10 ^ (18 : Int).toNat)) else none) = _ from (if_pos (by decide)).trans rfl) ?_
  simp
  refine ho_of (z := .int (if cell - 10 ^ 18 > 0 then cell - 10 ^ 18 else 0)) rfl ?_
  refine ho_of (mulD_int (.inr ⟨by decide, by decide⟩)) (ho_of (mulD_int (.inl ⟨by decide, by decide⟩)) ?_)
  simp
  refine ho_of (modD_int (by decide)) ?_
  exact h _ _ ⟨_, _, _, rfl, Int.emod_nonneg _ (by decide), by
    have := Int.emod_lt_of_pos (cell * 7919 + 104729 * ((k : Int) + 1)) (show (0 : Int) < 2147483647 by decide)
    omega⟩
def iL (ns : List Int) : List PyData := ns.map .int
theorem law_true (ns : List Int) (hl : ns.length ≤ 63) : ∃ ρ, f_law [.fr (.list (iL ns))] = .ok (.bool true) ρ := by
  have hw : Wr (f_law [.fr (.list (iL ns))]) (fun d _ => d = .bool true) := by
    refine wr_fnN ?_
    unfold b_law
    simp [slD]
    have hil : (iL ns).length = ns.length := List.length_map _
    have hc : (cutD (iL ns) none (some 20)).length ≤ 63 := by
      unfold cutD
      rw [List.length_take, List.length_drop]
      omega
    refine ho_of (if_pos (by rw [List.length_singleton, lim_val]; omega)) ?_
    refine ho_of enum1_list ?_
    have hints : ∃ ms : List Int, cutD (iL ns) none (some 20) = iL ms := by
      unfold cutD iL
      rw [← List.map_drop, ← List.map_take]
      exact ⟨_, rfl⟩
    obtain ⟨ms, em⟩ := hints
    rw [em, show [PyData.int (iL ns).length] ++ iL ms = iL (((iL ns).length : Int) :: ms) from rfl]
    rw [show enumD 0 (iL (((iL ns).length : Int) :: ms)) = ((((iL ns).length : Int) :: ms).zipIdx).map fun p => .tuple [.int (p.2 : Nat), .int p.1] from enumD_map _ _]
    refine wf_loop (fun p : Int × Nat => .tuple [.int (p.2 : Nat), .int p.1]) (fun _ ρ => ∃ c1 c2, ρ = [.fr (.list (iL ns)), c1, c2]) _ _ ⟨_, _, rfl⟩ ?_ ?_
    · rintro pre ⟨cell, k⟩ post ρ hd ⟨c1, c2, rfl⟩
      refine ho_of rfl ?_
      simp only [List.set]
      simp
      refine bag_ok fun b ρ1 hb => ?_
      refine held_ok hb fun ρ2 => ?_
      simp
    · rintro ρ ⟨c1, c2, rfl⟩
      simp
  obtain ⟨d, ρ, e, rfl⟩ := hw.get
  exact ⟨ρ, e⟩
end DL

namespace DL
open PySem PySem.Spec PyProof.Rows L2
section
variable {K : PySem.W.Frag} {h : Heap} {mg : Str → Option Value}
theorem cst_int {x : Str} {i : Int} (e : ∃ t, mg x = some (.int i t)) : Cst mg x (.int i) := by
  obtain ⟨t, e⟩ := e
  exact ⟨.int i, _, e, ⟨t, rfl⟩, fun _ _ => .int i⟩
theorem cst_str {x s : Str} (e : ∃ t, mg x = some (.str s t)) : Cst mg x (.str s) := by
  obtain ⟨t, e⟩ := e
  exact ⟨.str s, _, e, ⟨t, rfl⟩, fun _ _ => .str s⟩
theorem fun_of {fa : List He.Fa} {fn : List He.FnD} (c : He.SaysE fa fn K) (i : Nat) {d : He.FnD} (hd : fn[i]? = some d) {st : Stmt} (kp : PySem.W.keepIn K (.ref (He.fAd K d.at_)) = true)
    (e1 : d.params = defArgs st) (e2 : d.body = defBody st) (e3 : d.scope = defScope st) : ∃ fd, Fun K d.name d.qual st (He.fAd K d.at_) fd := by
  obtain ⟨oc, od, osl, kV, doc, pm, an, cdv, ct, l, q⟩ := c.def_ i hd
  rw [e1, e2, e3] at l
  exact ⟨_, fun_mk (st := st) l q kp⟩
end
/-- the law's promise, from the plain law -/
theorem law_sp {K : PySem.W.Frag} {ct : Nat → Addr} {F : Env → R PyData} {n : Nat} (hT : ∀ ns : List Int, ns.length ≤ n → ∃ ρ, F [.fr (.list (ns.map .int))] = .ok (.bool true) ρ)
    (H : Hp) (a : Addr) (ns : List Int) (hl : ns.length ≤ n) (hS : SqL K H a (ns.map V.int)) : spF K ct (fun G _ _ v d => Dr K G v d) 1 F [.ref a] H (fun v _ => v = .bl true) fun _ _ _ => False := by
  obtain ⟨ρ, e⟩ := hT ns hl
  have hd : ∀ l : List Int, DrL K H (l.map V.int) (l.map PyData.int) := fun l => by
    induction l with
    | nil => exact .nil
    | cons x r ih => exact .cons (.int x) ih
  refine ⟨rfl, fun _ => 0, [.fr (.list (ns.map .int))], H, fun _ => none, ⟨rfl, Same.refl _, fun _ z => absurd rfl z, fun _ z => absurd rfl z, fun i c z => ?_⟩, ?_⟩
  · match i with
    | 0 =>
      cases z
      exact ⟨_, rfl, .lst hS (hd ns)⟩
    | i + 1 => cases z
  · rw [e]
    intro v τ G' O' H' _ _ r
    cases r
    rfl
theorem walk_ofW {l : PySem.W.OpenLaw} {n k : Nat} {q : Program} {loose : List Str} {XP : (Str → Option Value) → Heap → Prop} {YP : World → Heap → Prop} {d : DefRec} {x : Str} {st : Stmt} {qx : Str} {F : Env → R PyData}
    (hn : l.most = some n) (hn2 : n ≤ sizeLine) (hdf : d.params.defaults = []) (hr : Room k callerA) (hq : d.name = qx)
    (hb : ∀ (kV doc pm : Value) (an : Option Addr) (cdv ct u : Value), bindArgs (PySem.W.fnOf qx qx (defArgs st) (defBody st) (defScope st) .none kV doc pm an cdv ct) ⟨[u], []⟩ = pure [(x, u)])
    (hT : ∀ ns : List Int, ns.length ≤ n → ∃ ρ, F [.fr (.list (ns.map .int))] = .ok (.bool true) ρ)
    (hF : ∀ (w : World) (mg : Str → Option Value) (h : Heap), YP w h → h.Ns mainGlobals mg → ∃ (K : PySem.W.Frag) (ct : Nat → Addr) (f : Addr) (fd : FuncData), K.In h ∧ mg qx = some (.ref f) ∧ Fun K qx qx st f fd ∧
      ∀ base : Heap, FnOk l.prog w K mg base (L2.CX l.prog w) k f fd [x] (spF K ct (fun G _ _ v d => Dr K G v d) 1 F)) :
    PySem.W.WalkO q loose XP YP l.row.toRowW d [] (fun f vs => PySem.call f vs) := by
  refine LamX.walk_ofTsE (x := x) (CX := fun w => L2.CX l.prog w) hn hn2 hdf hr (fun w mg fa h Y G hmg => ?_) fun w H s e s' c => ?_
  · obtain ⟨K, ct, f, fd, KX, hm, D, ok⟩ := hF w mg h Y G
    rw [hq, hm] at hmg
    cases hmg
    refine ⟨K, KX, fd, [], _, fun _ z => (nomatch z), fun _ z => (nomatch z), fun _ z => (nomatch z), ?_, fun H a ns h1 _ _ h2 => law_sp (ct := ct) hT H a ns h1 h2, fun base _ _ _ => ok base⟩
    obtain ⟨oc, od, kV, doc, pm, an, cdv, ct, osl, rfl, lk, hcd⟩ := D.ex
    exact fun s u => .of_eq (hb kV doc pm an cdv ct u)
  · obtain ⟨_, _, _, _, _, _, _, _, _, _, _, _, z⟩ := c
    exact z
end DL

namespace DL
open PySem PySem.Spec PyProof.Rows L2
def faH0 : List He.Fa := [.free "all",
  .free "any",
  .free "bool",
  .free "dict",
  .free "enumerate",
  .free "int",
  .free "isinstance",
  .free "len",
  .free "list",
  .free "max",
  .free "range",
  .free "set",
  .free "sorted",
  .free "str",
  .free "tuple",
  .free "zip",
  .int "BEYOND" (1000000000),
  .str "LETTERS" "abcdefghijklmnopqrstuvwxyz",
  .str "STAR" "*",
  .noat "Settling" "kinds_known",
  .noat "Settling" "knots",
  .noat "Settling" "names_known",
  .exc "NoWorld",
  .glo "NoWorld",
  .cls "Settling",
  .keep "_law_bag",
  .glo "_law_bag",
  .keep "_law_draw",
  .glo "_law_draw",
  .keep "_law_values"]
def faH1 : List He.Fa := [.glo "_law_values",
  .keep "_law_top",
  .glo "_law_top",
  .keep "_law_empty",
  .glo "_law_empty",
  .keep "_law_coarse",
  .glo "_law_coarse",
  .keep "_law_keys",
  .glo "_law_keys",
  .keep "_law_ladder",
  .glo "_law_ladder",
  .keep "_law_roll",
  .glo "_law_roll",
  .keep "_law_world",
  .glo "_law_world",
  .keep "is_number_releases",
  .glo "is_number_releases",
  .keep "path_up",
  .glo "path_up",
  .keep "paths_of",
  .glo "paths_of",
  .keep "levels_of",
  .glo "levels_of",
  .keep "are_levels",
  .glo "are_levels",
  .keep "is_level",
  .glo "is_level",
  .keep "coarse",
  .glo "coarse",
  .keep "is_at"]
def faH2 : List He.Fa := [.glo "is_at",
  .keep "is_key",
  .glo "is_key",
  .keep "is_secret",
  .glo "is_secret",
  .keep "is_group",
  .glo "is_group",
  .keep "is_release",
  .glo "is_release",
  .keep "key_of",
  .glo "key_of",
  .keep "knots_of",
  .glo "knots_of",
  .keep "fits",
  .glo "fits",
  .meth "Settling" "__init__",
  .mkr "Settling",
  .glo "Settling",
  .meth "Settling" "nobody",
  .meth "Settling" "settled_more",
  .keep "is_clash",
  .glo "is_clash",
  .meth "Settling" "first_clash",
  .meth "Settling" "next_person",
  .meth "Settling" "grown",
  .meth "Settling" "world_or_none",
  .keep "may_have",
  .glo "may_have",
  .meth "Settling" "number_named",
  .keep "is_number_trees"]
def faH3 : List He.Fa := [.glo "is_number_trees",
  .keep "is_same_key",
  .glo "is_same_key",
  .keep "clash_holds",
  .glo "clash_holds",
  .keep "split_holds",
  .glo "split_holds",
  .keep "holds",
  .glo "holds",
  .keep "tree_holds",
  .glo "tree_holds",
  .keep "world_or_tree",
  .glo "world_or_tree",
  .keep "_law_held",
  .glo "_law_held",
  .keep "law",
  .glo "law"]
def faH : List He.Fa := faH0 ++ (faH1 ++ (faH2 ++ faH3))
def fnH0 : List He.FnD := [(⟨("_law_bag", none), "_law_bag", "_law_bag", defArgs s__law_bag, defBody s__law_bag, defScope s__law_bag⟩ : He.FnD),
  (⟨("_law_draw", none), "_law_draw", "_law_draw", defArgs s__law_draw, defBody s__law_draw, defScope s__law_draw⟩ : He.FnD),
  (⟨("_law_values", none), "_law_values", "_law_values", defArgs s__law_values, defBody s__law_values, defScope s__law_values⟩ : He.FnD),
  (⟨("_law_top", none), "_law_top", "_law_top", defArgs s__law_top, defBody s__law_top, defScope s__law_top⟩ : He.FnD),
  (⟨("_law_empty", none), "_law_empty", "_law_empty", defArgs s__law_empty, defBody s__law_empty, defScope s__law_empty⟩ : He.FnD),
  (⟨("_law_coarse", none), "_law_coarse", "_law_coarse", defArgs s__law_coarse, defBody s__law_coarse, defScope s__law_coarse⟩ : He.FnD),
  (⟨("_law_keys", none), "_law_keys", "_law_keys", defArgs s__law_keys, defBody s__law_keys, defScope s__law_keys⟩ : He.FnD),
  (⟨("_law_ladder", none), "_law_ladder", "_law_ladder", defArgs s__law_ladder, defBody s__law_ladder, defScope s__law_ladder⟩ : He.FnD),
  (⟨("_law_roll", none), "_law_roll", "_law_roll", defArgs s__law_roll, defBody s__law_roll, defScope s__law_roll⟩ : He.FnD),
  (⟨("_law_world", none), "_law_world", "_law_world", defArgs s__law_world, defBody s__law_world, defScope s__law_world⟩ : He.FnD),
  (⟨("is_number_releases", none), "is_number", "is_number", defArgs s_is_number, defBody s_is_number, defScope s_is_number⟩ : He.FnD),
  (⟨("path_up", none), "path_up", "path_up", defArgs s_path_up, defBody s_path_up, defScope s_path_up⟩ : He.FnD),
  (⟨("paths_of", none), "paths_of", "paths_of", defArgs s_paths_of, defBody s_paths_of, defScope s_paths_of⟩ : He.FnD),
  (⟨("levels_of", none), "levels_of", "levels_of", defArgs s_levels_of, defBody s_levels_of, defScope s_levels_of⟩ : He.FnD),
  (⟨("are_levels", none), "are_levels", "are_levels", defArgs s_are_levels, defBody s_are_levels, defScope s_are_levels⟩ : He.FnD),
  (⟨("is_level", none), "is_level", "is_level", defArgs s_is_level, defBody s_is_level, defScope s_is_level⟩ : He.FnD),
  (⟨("coarse", none), "coarse", "coarse", defArgs s_coarse, defBody s_coarse, defScope s_coarse⟩ : He.FnD),
  (⟨("is_at", none), "is_at", "is_at", defArgs s_is_at, defBody s_is_at, defScope s_is_at⟩ : He.FnD),
  (⟨("is_key", none), "is_key", "is_key", defArgs s_is_key, defBody s_is_key, defScope s_is_key⟩ : He.FnD),
  (⟨("is_secret", none), "is_secret", "is_secret", defArgs s_is_secret, defBody s_is_secret, defScope s_is_secret⟩ : He.FnD),
  (⟨("is_group", none), "is_group", "is_group", defArgs s_is_group, defBody s_is_group, defScope s_is_group⟩ : He.FnD),
  (⟨("is_release", none), "is_release", "is_release", defArgs s_is_release, defBody s_is_release, defScope s_is_release⟩ : He.FnD),
  (⟨("key_of", none), "key_of", "key_of", defArgs s_key_of, defBody s_key_of, defScope s_key_of⟩ : He.FnD),
  (⟨("knots_of", none), "knots_of", "knots_of", defArgs s_knots_of, defBody s_knots_of, defScope s_knots_of⟩ : He.FnD),
  (⟨("fits", none), "fits", "fits", defArgs s_fits, defBody s_fits, defScope s_fits⟩ : He.FnD),
  (⟨("Settling", some "__init__"), "__init__", "Settling.__init__", defArgs s_Settling_init, defBody s_Settling_init, defScope s_Settling_init⟩ : He.FnD),
  (⟨("Settling", some "nobody"), "nobody", "Settling.nobody", defArgs s_Settling_nobody, defBody s_Settling_nobody, defScope s_Settling_nobody⟩ : He.FnD),
  (⟨("Settling", some "settled_more"), "settled_more", "Settling.settled_more", defArgs s_Settling_settled_more, defBody s_Settling_settled_more, defScope s_Settling_settled_more⟩ : He.FnD),
  (⟨("is_clash", none), "is_clash", "is_clash", defArgs s_is_clash, defBody s_is_clash, defScope s_is_clash⟩ : He.FnD),
  (⟨("Settling", some "first_clash"), "first_clash", "Settling.first_clash", defArgs s_Settling_first_clash, defBody s_Settling_first_clash, defScope s_Settling_first_clash⟩ : He.FnD)]
def fnH1 : List He.FnD := [(⟨("Settling", some "next_person"), "next_person", "Settling.next_person", defArgs s_Settling_next_person, defBody s_Settling_next_person, defScope s_Settling_next_person⟩ : He.FnD),
  (⟨("Settling", some "grown"), "grown", "Settling.grown", defArgs s_Settling_grown, defBody s_Settling_grown, defScope s_Settling_grown⟩ : He.FnD),
  (⟨("Settling", some "world_or_none"), "world_or_none", "Settling.world_or_none", defArgs s_Settling_world_or_none, defBody s_Settling_world_or_none, defScope s_Settling_world_or_none⟩ : He.FnD),
  (⟨("may_have", none), "may_have", "may_have", defArgs s_may_have, defBody s_may_have, defScope s_may_have⟩ : He.FnD),
  (⟨("Settling", some "number_named"), "number_named", "Settling.number_named", defArgs s_Settling_number_named, defBody s_Settling_number_named, defScope s_Settling_number_named⟩ : He.FnD),
  (⟨("is_number_trees", none), "is_number", "is_number", defArgs s_is_number_2, defBody s_is_number_2, defScope s_is_number_2⟩ : He.FnD),
  (⟨("is_same_key", none), "is_same_key", "is_same_key", defArgs s_is_same_key, defBody s_is_same_key, defScope s_is_same_key⟩ : He.FnD),
  (⟨("clash_holds", none), "clash_holds", "clash_holds", defArgs s_clash_holds, defBody s_clash_holds, defScope s_clash_holds⟩ : He.FnD),
  (⟨("split_holds", none), "split_holds", "split_holds", defArgs s_split_holds, defBody s_split_holds, defScope s_split_holds⟩ : He.FnD),
  (⟨("holds", none), "holds", "holds", defArgs s_holds, defBody s_holds, defScope s_holds⟩ : He.FnD),
  (⟨("tree_holds", none), "tree_holds", "tree_holds", defArgs s_tree_holds, defBody s_tree_holds, defScope s_tree_holds⟩ : He.FnD),
  (⟨("world_or_tree", none), "world_or_tree", "world_or_tree", defArgs s_world_or_tree, defBody s_world_or_tree, defScope s_world_or_tree⟩ : He.FnD),
  (⟨("_law_held", none), "_law_held", "_law_held", defArgs s__law_held, defBody s__law_held, defScope s__law_held⟩ : He.FnD),
  (⟨("law", none), "law", "law", defArgs s_law, defBody s_law, defScope s_law⟩ : He.FnD)]
def fnH : List He.FnD := fnH0 ++ fnH1
def looseH0 : List Str := ["__name__",
  "MistError",
  "NoLevel",
  "NoWorld",
  "STAR",
  "BEYOND",
  "path_up",
  "paths_of",
  "levels_of",
  "is_level",
  "coarse",
  "is_at",
  "LETTERS",
  "is_number",
  "is_number_releases",
  "is_secret",
  "is_key",
  "is_group",
  "are_levels",
  "is_release",
  "key_of",
  "knots_of",
  "is_clash",
  "Settling",
  "fits",
  "may_have",
  "world_or_tree",
  "is_number_trees",
  "is_same_key",
  "clash_holds"]
def looseH1 : List Str := ["split_holds",
  "holds",
  "tree_holds",
  "_law_bag",
  "_law_draw",
  "_law_ladder",
  "_law_values",
  "_law_top",
  "_law_coarse",
  "_law_roll",
  "_law_keys",
  "_law_world",
  "_law_empty",
  "_law_held"]
def looseH : List Str := looseH0 ++ looseH1
def ctH (K : PySem.W.Frag) : Nat → Addr := fun i => match i with | 0 => He.ga K "Settling" | 1 => He.ga K "NoWorld" | _ => 0
section
variable {K : PySem.W.Frag} {h : Heap} {mg : Str → Option Value}
theorem q__law_bag (X : K.In h) (G : h.Ns mainGlobals mg) (c : He.SaysE faH fnH K) : DefX K mg "_law_bag" "_law_bag" "_law_bag" s__law_bag p__law_bag := by
  obtain ⟨fd, F⟩ := fun_of c 0 (d := (⟨("_law_bag", none), "_law_bag", "_law_bag", defArgs s__law_bag, defBody s__law_bag, defScope s__law_bag⟩ : He.FnD)) (st := s__law_bag) rfl (He.keep_ok (c.fact 25 (f := .keep "_law_bag") rfl)) rfl rfl rfl
  exact ⟨_, fd, F, He.glo_ok X G (c.fact 26 (f := .glo "_law_bag") rfl), F.binds fun _ _ _ _ _ _ us hl => match us, hl with | [_, _], _ => rfl⟩
theorem q__law_draw (X : K.In h) (G : h.Ns mainGlobals mg) (c : He.SaysE faH fnH K) : DefX K mg "_law_draw" "_law_draw" "_law_draw" s__law_draw p__law_draw := by
  obtain ⟨fd, F⟩ := fun_of c 1 (d := (⟨("_law_draw", none), "_law_draw", "_law_draw", defArgs s__law_draw, defBody s__law_draw, defScope s__law_draw⟩ : He.FnD)) (st := s__law_draw) rfl (He.keep_ok (c.fact 27 (f := .keep "_law_draw") rfl)) rfl rfl rfl
  exact ⟨_, fd, F, He.glo_ok X G (c.fact 28 (f := .glo "_law_draw") rfl), F.binds fun _ _ _ _ _ _ us hl => match us, hl with | [_, _], _ => rfl⟩
theorem q__law_values (X : K.In h) (G : h.Ns mainGlobals mg) (c : He.SaysE faH fnH K) : DefX K mg "_law_values" "_law_values" "_law_values" s__law_values p__law_values := by
  obtain ⟨fd, F⟩ := fun_of c 2 (d := (⟨("_law_values", none), "_law_values", "_law_values", defArgs s__law_values, defBody s__law_values, defScope s__law_values⟩ : He.FnD)) (st := s__law_values) rfl (He.keep_ok (c.fact 29 (f := .keep "_law_values") rfl)) rfl rfl rfl
  exact ⟨_, fd, F, He.glo_ok X G (c.fact 30 (f := .glo "_law_values") rfl), F.binds fun _ _ _ _ _ _ us hl => match us, hl with | [_], _ => rfl⟩
theorem q__law_top (X : K.In h) (G : h.Ns mainGlobals mg) (c : He.SaysE faH fnH K) : DefX K mg "_law_top" "_law_top" "_law_top" s__law_top p__law_top := by
  obtain ⟨fd, F⟩ := fun_of c 3 (d := (⟨("_law_top", none), "_law_top", "_law_top", defArgs s__law_top, defBody s__law_top, defScope s__law_top⟩ : He.FnD)) (st := s__law_top) rfl (He.keep_ok (c.fact 31 (f := .keep "_law_top") rfl)) rfl rfl rfl
  exact ⟨_, fd, F, He.glo_ok X G (c.fact 32 (f := .glo "_law_top") rfl), F.binds fun _ _ _ _ _ _ us hl => match us, hl with | [_], _ => rfl⟩
theorem q__law_empty (X : K.In h) (G : h.Ns mainGlobals mg) (c : He.SaysE faH fnH K) : DefX K mg "_law_empty" "_law_empty" "_law_empty" s__law_empty p__law_empty := by
  obtain ⟨fd, F⟩ := fun_of c 4 (d := (⟨("_law_empty", none), "_law_empty", "_law_empty", defArgs s__law_empty, defBody s__law_empty, defScope s__law_empty⟩ : He.FnD)) (st := s__law_empty) rfl (He.keep_ok (c.fact 33 (f := .keep "_law_empty") rfl)) rfl rfl rfl
  exact ⟨_, fd, F, He.glo_ok X G (c.fact 34 (f := .glo "_law_empty") rfl), F.binds fun _ _ _ _ _ _ us hl => match us, hl with | [_, _], _ => rfl⟩
theorem q__law_coarse (X : K.In h) (G : h.Ns mainGlobals mg) (c : He.SaysE faH fnH K) : DefX K mg "_law_coarse" "_law_coarse" "_law_coarse" s__law_coarse p__law_coarse := by
  obtain ⟨fd, F⟩ := fun_of c 5 (d := (⟨("_law_coarse", none), "_law_coarse", "_law_coarse", defArgs s__law_coarse, defBody s__law_coarse, defScope s__law_coarse⟩ : He.FnD)) (st := s__law_coarse) rfl (He.keep_ok (c.fact 35 (f := .keep "_law_coarse") rfl)) rfl rfl rfl
  exact ⟨_, fd, F, He.glo_ok X G (c.fact 36 (f := .glo "_law_coarse") rfl), F.binds fun _ _ _ _ _ _ us hl => match us, hl with | [_, _, _], _ => rfl⟩
theorem q__law_keys (X : K.In h) (G : h.Ns mainGlobals mg) (c : He.SaysE faH fnH K) : DefX K mg "_law_keys" "_law_keys" "_law_keys" s__law_keys p__law_keys := by
  obtain ⟨fd, F⟩ := fun_of c 6 (d := (⟨("_law_keys", none), "_law_keys", "_law_keys", defArgs s__law_keys, defBody s__law_keys, defScope s__law_keys⟩ : He.FnD)) (st := s__law_keys) rfl (He.keep_ok (c.fact 37 (f := .keep "_law_keys") rfl)) rfl rfl rfl
  exact ⟨_, fd, F, He.glo_ok X G (c.fact 38 (f := .glo "_law_keys") rfl), F.binds fun _ _ _ _ _ _ us hl => match us, hl with | [_, _], _ => rfl⟩
theorem q__law_ladder (X : K.In h) (G : h.Ns mainGlobals mg) (c : He.SaysE faH fnH K) : DefX K mg "_law_ladder" "_law_ladder" "_law_ladder" s__law_ladder p__law_ladder := by
  obtain ⟨fd, F⟩ := fun_of c 7 (d := (⟨("_law_ladder", none), "_law_ladder", "_law_ladder", defArgs s__law_ladder, defBody s__law_ladder, defScope s__law_ladder⟩ : He.FnD)) (st := s__law_ladder) rfl (He.keep_ok (c.fact 39 (f := .keep "_law_ladder") rfl)) rfl rfl rfl
  exact ⟨_, fd, F, He.glo_ok X G (c.fact 40 (f := .glo "_law_ladder") rfl), F.binds fun _ _ _ _ _ _ us hl => match us, hl with | [_], _ => rfl⟩
theorem q__law_roll (X : K.In h) (G : h.Ns mainGlobals mg) (c : He.SaysE faH fnH K) : DefX K mg "_law_roll" "_law_roll" "_law_roll" s__law_roll p__law_roll := by
  obtain ⟨fd, F⟩ := fun_of c 8 (d := (⟨("_law_roll", none), "_law_roll", "_law_roll", defArgs s__law_roll, defBody s__law_roll, defScope s__law_roll⟩ : He.FnD)) (st := s__law_roll) rfl (He.keep_ok (c.fact 41 (f := .keep "_law_roll") rfl)) rfl rfl rfl
  exact ⟨_, fd, F, He.glo_ok X G (c.fact 42 (f := .glo "_law_roll") rfl), F.binds fun _ _ _ _ _ _ us hl => match us, hl with | [_, _, _], _ => rfl⟩
theorem q__law_world (X : K.In h) (G : h.Ns mainGlobals mg) (c : He.SaysE faH fnH K) : DefX K mg "_law_world" "_law_world" "_law_world" s__law_world p__law_world := by
  obtain ⟨fd, F⟩ := fun_of c 9 (d := (⟨("_law_world", none), "_law_world", "_law_world", defArgs s__law_world, defBody s__law_world, defScope s__law_world⟩ : He.FnD)) (st := s__law_world) rfl (He.keep_ok (c.fact 43 (f := .keep "_law_world") rfl)) rfl rfl rfl
  exact ⟨_, fd, F, He.glo_ok X G (c.fact 44 (f := .glo "_law_world") rfl), F.binds fun _ _ _ _ _ _ us hl => match us, hl with | [_, _], _ => rfl⟩
theorem q_is_number (X : K.In h) (G : h.Ns mainGlobals mg) (c : He.SaysE faH fnH K) : DefX K mg "is_number_releases" "is_number" "is_number" s_is_number p_is_number := by
  obtain ⟨fd, F⟩ := fun_of c 10 (d := (⟨("is_number_releases", none), "is_number", "is_number", defArgs s_is_number, defBody s_is_number, defScope s_is_number⟩ : He.FnD)) (st := s_is_number) rfl (He.keep_ok (c.fact 45 (f := .keep "is_number_releases") rfl)) rfl rfl rfl
  exact ⟨_, fd, F, He.glo_ok X G (c.fact 46 (f := .glo "is_number_releases") rfl), F.binds fun _ _ _ _ _ _ us hl => match us, hl with | [_], _ => rfl⟩
theorem q_path_up (X : K.In h) (G : h.Ns mainGlobals mg) (c : He.SaysE faH fnH K) : DefX K mg "path_up" "path_up" "path_up" s_path_up p_path_up := by
  obtain ⟨fd, F⟩ := fun_of c 11 (d := (⟨("path_up", none), "path_up", "path_up", defArgs s_path_up, defBody s_path_up, defScope s_path_up⟩ : He.FnD)) (st := s_path_up) rfl (He.keep_ok (c.fact 47 (f := .keep "path_up") rfl)) rfl rfl rfl
  exact ⟨_, fd, F, He.glo_ok X G (c.fact 48 (f := .glo "path_up") rfl), F.binds fun _ _ _ _ _ _ us hl => match us, hl with | [_, _], _ => rfl⟩
theorem q_paths_of (X : K.In h) (G : h.Ns mainGlobals mg) (c : He.SaysE faH fnH K) : DefX K mg "paths_of" "paths_of" "paths_of" s_paths_of p_paths_of := by
  obtain ⟨fd, F⟩ := fun_of c 12 (d := (⟨("paths_of", none), "paths_of", "paths_of", defArgs s_paths_of, defBody s_paths_of, defScope s_paths_of⟩ : He.FnD)) (st := s_paths_of) rfl (He.keep_ok (c.fact 49 (f := .keep "paths_of") rfl)) rfl rfl rfl
  exact ⟨_, fd, F, He.glo_ok X G (c.fact 50 (f := .glo "paths_of") rfl), F.binds fun _ _ _ _ _ _ us hl => match us, hl with | [_], _ => rfl⟩
theorem q_levels_of (X : K.In h) (G : h.Ns mainGlobals mg) (c : He.SaysE faH fnH K) : DefX K mg "levels_of" "levels_of" "levels_of" s_levels_of p_levels_of := by
  obtain ⟨fd, F⟩ := fun_of c 13 (d := (⟨("levels_of", none), "levels_of", "levels_of", defArgs s_levels_of, defBody s_levels_of, defScope s_levels_of⟩ : He.FnD)) (st := s_levels_of) rfl (He.keep_ok (c.fact 51 (f := .keep "levels_of") rfl)) rfl rfl rfl
  exact ⟨_, fd, F, He.glo_ok X G (c.fact 52 (f := .glo "levels_of") rfl), F.binds fun _ _ _ _ _ _ us hl => match us, hl with | [_], _ => rfl⟩
theorem q_are_levels (X : K.In h) (G : h.Ns mainGlobals mg) (c : He.SaysE faH fnH K) : DefX K mg "are_levels" "are_levels" "are_levels" s_are_levels p_are_levels := by
  obtain ⟨fd, F⟩ := fun_of c 14 (d := (⟨("are_levels", none), "are_levels", "are_levels", defArgs s_are_levels, defBody s_are_levels, defScope s_are_levels⟩ : He.FnD)) (st := s_are_levels) rfl (He.keep_ok (c.fact 53 (f := .keep "are_levels") rfl)) rfl rfl rfl
  exact ⟨_, fd, F, He.glo_ok X G (c.fact 54 (f := .glo "are_levels") rfl), F.binds fun _ _ _ _ _ _ us hl => match us, hl with | [_, _], _ => rfl⟩
theorem q_is_level (X : K.In h) (G : h.Ns mainGlobals mg) (c : He.SaysE faH fnH K) : DefX K mg "is_level" "is_level" "is_level" s_is_level p_is_level := by
  obtain ⟨fd, F⟩ := fun_of c 15 (d := (⟨("is_level", none), "is_level", "is_level", defArgs s_is_level, defBody s_is_level, defScope s_is_level⟩ : He.FnD)) (st := s_is_level) rfl (He.keep_ok (c.fact 55 (f := .keep "is_level") rfl)) rfl rfl rfl
  exact ⟨_, fd, F, He.glo_ok X G (c.fact 56 (f := .glo "is_level") rfl), F.binds fun _ _ _ _ _ _ us hl => match us, hl with | [_, _], _ => rfl⟩
theorem q_coarse (X : K.In h) (G : h.Ns mainGlobals mg) (c : He.SaysE faH fnH K) : DefX K mg "coarse" "coarse" "coarse" s_coarse p_coarse := by
  obtain ⟨fd, F⟩ := fun_of c 16 (d := (⟨("coarse", none), "coarse", "coarse", defArgs s_coarse, defBody s_coarse, defScope s_coarse⟩ : He.FnD)) (st := s_coarse) rfl (He.keep_ok (c.fact 57 (f := .keep "coarse") rfl)) rfl rfl rfl
  exact ⟨_, fd, F, He.glo_ok X G (c.fact 58 (f := .glo "coarse") rfl), F.binds fun _ _ _ _ _ _ us hl => match us, hl with | [_, _, _], _ => rfl⟩
theorem q_is_at (X : K.In h) (G : h.Ns mainGlobals mg) (c : He.SaysE faH fnH K) : DefX K mg "is_at" "is_at" "is_at" s_is_at p_is_at := by
  obtain ⟨fd, F⟩ := fun_of c 17 (d := (⟨("is_at", none), "is_at", "is_at", defArgs s_is_at, defBody s_is_at, defScope s_is_at⟩ : He.FnD)) (st := s_is_at) rfl (He.keep_ok (c.fact 59 (f := .keep "is_at") rfl)) rfl rfl rfl
  exact ⟨_, fd, F, He.glo_ok X G (c.fact 60 (f := .glo "is_at") rfl), F.binds fun _ _ _ _ _ _ us hl => match us, hl with | [_, _, _], _ => rfl⟩
theorem q_is_key (X : K.In h) (G : h.Ns mainGlobals mg) (c : He.SaysE faH fnH K) : DefX K mg "is_key" "is_key" "is_key" s_is_key p_is_key := by
  obtain ⟨fd, F⟩ := fun_of c 18 (d := (⟨("is_key", none), "is_key", "is_key", defArgs s_is_key, defBody s_is_key, defScope s_is_key⟩ : He.FnD)) (st := s_is_key) rfl (He.keep_ok (c.fact 61 (f := .keep "is_key") rfl)) rfl rfl rfl
  exact ⟨_, fd, F, He.glo_ok X G (c.fact 62 (f := .glo "is_key") rfl), F.binds fun _ _ _ _ _ _ us hl => match us, hl with | [_, _, _], _ => rfl⟩
theorem q_is_secret (X : K.In h) (G : h.Ns mainGlobals mg) (c : He.SaysE faH fnH K) : DefX K mg "is_secret" "is_secret" "is_secret" s_is_secret p_is_secret := by
  obtain ⟨fd, F⟩ := fun_of c 19 (d := (⟨("is_secret", none), "is_secret", "is_secret", defArgs s_is_secret, defBody s_is_secret, defScope s_is_secret⟩ : He.FnD)) (st := s_is_secret) rfl (He.keep_ok (c.fact 63 (f := .keep "is_secret") rfl)) rfl rfl rfl
  exact ⟨_, fd, F, He.glo_ok X G (c.fact 64 (f := .glo "is_secret") rfl), F.binds fun _ _ _ _ _ _ us hl => match us, hl with | [_], _ => rfl⟩
theorem q_is_group (X : K.In h) (G : h.Ns mainGlobals mg) (c : He.SaysE faH fnH K) : DefX K mg "is_group" "is_group" "is_group" s_is_group p_is_group := by
  obtain ⟨fd, F⟩ := fun_of c 20 (d := (⟨("is_group", none), "is_group", "is_group", defArgs s_is_group, defBody s_is_group, defScope s_is_group⟩ : He.FnD)) (st := s_is_group) rfl (He.keep_ok (c.fact 65 (f := .keep "is_group") rfl)) rfl rfl rfl
  exact ⟨_, fd, F, He.glo_ok X G (c.fact 66 (f := .glo "is_group") rfl), F.binds fun _ _ _ _ _ _ us hl => match us, hl with | [_, _, _], _ => rfl⟩
theorem q_is_release (X : K.In h) (G : h.Ns mainGlobals mg) (c : He.SaysE faH fnH K) : DefX K mg "is_release" "is_release" "is_release" s_is_release p_is_release := by
  obtain ⟨fd, F⟩ := fun_of c 21 (d := (⟨("is_release", none), "is_release", "is_release", defArgs s_is_release, defBody s_is_release, defScope s_is_release⟩ : He.FnD)) (st := s_is_release) rfl (He.keep_ok (c.fact 67 (f := .keep "is_release") rfl)) rfl rfl rfl
  exact ⟨_, fd, F, He.glo_ok X G (c.fact 68 (f := .glo "is_release") rfl), F.binds fun _ _ _ _ _ _ us hl => match us, hl with | [_, _], _ => rfl⟩
theorem q_key_of (X : K.In h) (G : h.Ns mainGlobals mg) (c : He.SaysE faH fnH K) : DefX K mg "key_of" "key_of" "key_of" s_key_of p_key_of := by
  obtain ⟨fd, F⟩ := fun_of c 22 (d := (⟨("key_of", none), "key_of", "key_of", defArgs s_key_of, defBody s_key_of, defScope s_key_of⟩ : He.FnD)) (st := s_key_of) rfl (He.keep_ok (c.fact 69 (f := .keep "key_of") rfl)) rfl rfl rfl
  exact ⟨_, fd, F, He.glo_ok X G (c.fact 70 (f := .glo "key_of") rfl), F.binds fun _ _ _ _ _ _ us hl => match us, hl with | [_, _, _], _ => rfl⟩
theorem q_knots_of (X : K.In h) (G : h.Ns mainGlobals mg) (c : He.SaysE faH fnH K) : DefX K mg "knots_of" "knots_of" "knots_of" s_knots_of p_knots_of := by
  obtain ⟨fd, F⟩ := fun_of c 23 (d := (⟨("knots_of", none), "knots_of", "knots_of", defArgs s_knots_of, defBody s_knots_of, defScope s_knots_of⟩ : He.FnD)) (st := s_knots_of) rfl (He.keep_ok (c.fact 71 (f := .keep "knots_of") rfl)) rfl rfl rfl
  exact ⟨_, fd, F, He.glo_ok X G (c.fact 72 (f := .glo "knots_of") rfl), F.binds fun _ _ _ _ _ _ us hl => match us, hl with | [_, _], _ => rfl⟩
theorem q_fits (X : K.In h) (G : h.Ns mainGlobals mg) (c : He.SaysE faH fnH K) : DefX K mg "fits" "fits" "fits" s_fits p_fits := by
  obtain ⟨fd, F⟩ := fun_of c 24 (d := (⟨("fits", none), "fits", "fits", defArgs s_fits, defBody s_fits, defScope s_fits⟩ : He.FnD)) (st := s_fits) rfl (He.keep_ok (c.fact 73 (f := .keep "fits") rfl)) rfl rfl rfl
  exact ⟨_, fd, F, He.glo_ok X G (c.fact 74 (f := .glo "fits") rfl), F.binds fun _ _ _ _ _ _ us hl => match us, hl with | [_, _, _], _ => rfl⟩
theorem q_Settling_init (X : K.In h) (G : h.Ns mainGlobals mg) (c : He.SaysE faH fnH K) : DefI K mg (He.ga K "Settling") "Settling" "Settling.__init__" s_Settling_init p_Settling_init := by
  have m := He.meth_ok (c.fact 75 (f := .meth "Settling" "__init__") rfl)
  obtain ⟨fd, F⟩ := fun_of c 25 (d := (⟨("Settling", some "__init__"), "__init__", "Settling.__init__", defArgs s_Settling_init, defBody s_Settling_init, defScope s_Settling_init⟩ : He.FnD)) (st := s_Settling_init) rfl m.3 rfl rfl rfl
  exact ⟨_, fd, F, He.mkr_ok (c.fact 76 (f := .mkr "Settling") rfl), He.glo_ok X G (c.fact 77 (f := .glo "Settling") rfl), F.binds fun _ _ _ _ _ _ us hl => match us, hl with | [_, _, _], _ => rfl⟩
theorem q_Settling_nobody (c : He.SaysE faH fnH K) : DefM K (He.ga K "Settling") "nobody" "Settling.nobody" s_Settling_nobody p_Settling_nobody := by
  have m := He.meth_ok (c.fact 78 (f := .meth "Settling" "nobody") rfl)
  obtain ⟨fd, F⟩ := fun_of c 26 (d := (⟨("Settling", some "nobody"), "nobody", "Settling.nobody", defArgs s_Settling_nobody, defBody s_Settling_nobody, defScope s_Settling_nobody⟩ : He.FnD)) (st := s_Settling_nobody) rfl m.3 rfl rfl rfl
  exact ⟨_, fd, F, m, F.binds fun _ _ _ _ _ _ us hl => match us, hl with | [_], _ => rfl⟩
theorem q_Settling_settled_more (c : He.SaysE faH fnH K) : DefM K (He.ga K "Settling") "settled_more" "Settling.settled_more" s_Settling_settled_more p_Settling_settled_more := by
  have m := He.meth_ok (c.fact 79 (f := .meth "Settling" "settled_more") rfl)
  obtain ⟨fd, F⟩ := fun_of c 27 (d := (⟨("Settling", some "settled_more"), "settled_more", "Settling.settled_more", defArgs s_Settling_settled_more, defBody s_Settling_settled_more, defScope s_Settling_settled_more⟩ : He.FnD)) (st := s_Settling_settled_more) rfl m.3 rfl rfl rfl
  exact ⟨_, fd, F, m, F.binds fun _ _ _ _ _ _ us hl => match us, hl with | [_, _, _, _], _ => rfl⟩
theorem q_is_clash (X : K.In h) (G : h.Ns mainGlobals mg) (c : He.SaysE faH fnH K) : DefX K mg "is_clash" "is_clash" "is_clash" s_is_clash p_is_clash := by
  obtain ⟨fd, F⟩ := fun_of c 28 (d := (⟨("is_clash", none), "is_clash", "is_clash", defArgs s_is_clash, defBody s_is_clash, defScope s_is_clash⟩ : He.FnD)) (st := s_is_clash) rfl (He.keep_ok (c.fact 80 (f := .keep "is_clash") rfl)) rfl rfl rfl
  exact ⟨_, fd, F, He.glo_ok X G (c.fact 81 (f := .glo "is_clash") rfl), F.binds fun _ _ _ _ _ _ us hl => match us, hl with | [_, _, _], _ => rfl⟩
theorem q_Settling_first_clash (c : He.SaysE faH fnH K) : DefM K (He.ga K "Settling") "first_clash" "Settling.first_clash" s_Settling_first_clash p_Settling_first_clash := by
  have m := He.meth_ok (c.fact 82 (f := .meth "Settling" "first_clash") rfl)
  obtain ⟨fd, F⟩ := fun_of c 29 (d := (⟨("Settling", some "first_clash"), "first_clash", "Settling.first_clash", defArgs s_Settling_first_clash, defBody s_Settling_first_clash, defScope s_Settling_first_clash⟩ : He.FnD)) (st := s_Settling_first_clash) rfl m.3 rfl rfl rfl
  exact ⟨_, fd, F, m, F.binds fun _ _ _ _ _ _ us hl => match us, hl with | [_, _, _], _ => rfl⟩
theorem q_Settling_next_person (c : He.SaysE faH fnH K) : DefM K (He.ga K "Settling") "next_person" "Settling.next_person" s_Settling_next_person p_Settling_next_person := by
  have m := He.meth_ok (c.fact 83 (f := .meth "Settling" "next_person") rfl)
  obtain ⟨fd, F⟩ := fun_of c 30 (d := (⟨("Settling", some "next_person"), "next_person", "Settling.next_person", defArgs s_Settling_next_person, defBody s_Settling_next_person, defScope s_Settling_next_person⟩ : He.FnD)) (st := s_Settling_next_person) rfl m.3 rfl rfl rfl
  exact ⟨_, fd, F, m, F.binds fun _ _ _ _ _ _ us hl => match us, hl with | [_, _], _ => rfl⟩
theorem q_Settling_grown (c : He.SaysE faH fnH K) : DefM K (He.ga K "Settling") "grown" "Settling.grown" s_Settling_grown p_Settling_grown := by
  have m := He.meth_ok (c.fact 84 (f := .meth "Settling" "grown") rfl)
  obtain ⟨fd, F⟩ := fun_of c 31 (d := (⟨("Settling", some "grown"), "grown", "Settling.grown", defArgs s_Settling_grown, defBody s_Settling_grown, defScope s_Settling_grown⟩ : He.FnD)) (st := s_Settling_grown) rfl m.3 rfl rfl rfl
  exact ⟨_, fd, F, m, F.binds fun _ _ _ _ _ _ us hl => match us, hl with | [_, _, _], _ => rfl⟩
theorem q_Settling_world_or_none (c : He.SaysE faH fnH K) : DefM K (He.ga K "Settling") "world_or_none" "Settling.world_or_none" s_Settling_world_or_none p_Settling_world_or_none := by
  have m := He.meth_ok (c.fact 85 (f := .meth "Settling" "world_or_none") rfl)
  obtain ⟨fd, F⟩ := fun_of c 32 (d := (⟨("Settling", some "world_or_none"), "world_or_none", "Settling.world_or_none", defArgs s_Settling_world_or_none, defBody s_Settling_world_or_none, defScope s_Settling_world_or_none⟩ : He.FnD)) (st := s_Settling_world_or_none) rfl m.3 rfl rfl rfl
  exact ⟨_, fd, F, m, F.binds fun _ _ _ _ _ _ us hl => match us, hl with | [_, _], _ => rfl⟩
theorem q_may_have (X : K.In h) (G : h.Ns mainGlobals mg) (c : He.SaysE faH fnH K) : DefX K mg "may_have" "may_have" "may_have" s_may_have p_may_have := by
  obtain ⟨fd, F⟩ := fun_of c 33 (d := (⟨("may_have", none), "may_have", "may_have", defArgs s_may_have, defBody s_may_have, defScope s_may_have⟩ : He.FnD)) (st := s_may_have) rfl (He.keep_ok (c.fact 86 (f := .keep "may_have") rfl)) rfl rfl rfl
  exact ⟨_, fd, F, He.glo_ok X G (c.fact 87 (f := .glo "may_have") rfl), F.binds fun _ _ _ _ _ _ us hl => match us, hl with | [_, _], _ => rfl⟩
theorem q_Settling_number_named (c : He.SaysE faH fnH K) : DefM K (He.ga K "Settling") "number_named" "Settling.number_named" s_Settling_number_named p_Settling_number_named := by
  have m := He.meth_ok (c.fact 88 (f := .meth "Settling" "number_named") rfl)
  obtain ⟨fd, F⟩ := fun_of c 34 (d := (⟨("Settling", some "number_named"), "number_named", "Settling.number_named", defArgs s_Settling_number_named, defBody s_Settling_number_named, defScope s_Settling_number_named⟩ : He.FnD)) (st := s_Settling_number_named) rfl m.3 rfl rfl rfl
  exact ⟨_, fd, F, m, F.binds fun _ _ _ _ _ _ us hl => match us, hl with | [_, _], _ => rfl⟩
theorem q_is_number_2 (X : K.In h) (G : h.Ns mainGlobals mg) (c : He.SaysE faH fnH K) : DefX K mg "is_number_trees" "is_number" "is_number" s_is_number_2 p_is_number_2 := by
  obtain ⟨fd, F⟩ := fun_of c 35 (d := (⟨("is_number_trees", none), "is_number", "is_number", defArgs s_is_number_2, defBody s_is_number_2, defScope s_is_number_2⟩ : He.FnD)) (st := s_is_number_2) rfl (He.keep_ok (c.fact 89 (f := .keep "is_number_trees") rfl)) rfl rfl rfl
  exact ⟨_, fd, F, He.glo_ok X G (c.fact 90 (f := .glo "is_number_trees") rfl), F.binds fun _ _ _ _ _ _ us hl => match us, hl with | [_], _ => rfl⟩
theorem q_is_same_key (X : K.In h) (G : h.Ns mainGlobals mg) (c : He.SaysE faH fnH K) : DefX K mg "is_same_key" "is_same_key" "is_same_key" s_is_same_key p_is_same_key := by
  obtain ⟨fd, F⟩ := fun_of c 36 (d := (⟨("is_same_key", none), "is_same_key", "is_same_key", defArgs s_is_same_key, defBody s_is_same_key, defScope s_is_same_key⟩ : He.FnD)) (st := s_is_same_key) rfl (He.keep_ok (c.fact 91 (f := .keep "is_same_key") rfl)) rfl rfl rfl
  exact ⟨_, fd, F, He.glo_ok X G (c.fact 92 (f := .glo "is_same_key") rfl), F.binds fun _ _ _ _ _ _ us hl => match us, hl with | [_, _], _ => rfl⟩
theorem q_clash_holds (X : K.In h) (G : h.Ns mainGlobals mg) (c : He.SaysE faH fnH K) : DefX K mg "clash_holds" "clash_holds" "clash_holds" s_clash_holds p_clash_holds := by
  obtain ⟨fd, F⟩ := fun_of c 37 (d := (⟨("clash_holds", none), "clash_holds", "clash_holds", defArgs s_clash_holds, defBody s_clash_holds, defScope s_clash_holds⟩ : He.FnD)) (st := s_clash_holds) rfl (He.keep_ok (c.fact 93 (f := .keep "clash_holds") rfl)) rfl rfl rfl
  exact ⟨_, fd, F, He.glo_ok X G (c.fact 94 (f := .glo "clash_holds") rfl), F.binds fun _ _ _ _ _ _ us hl => match us, hl with | [_, _, _], _ => rfl⟩
theorem q_split_holds (X : K.In h) (G : h.Ns mainGlobals mg) (c : He.SaysE faH fnH K) : DefX K mg "split_holds" "split_holds" "split_holds" s_split_holds p_split_holds := by
  obtain ⟨fd, F⟩ := fun_of c 38 (d := (⟨("split_holds", none), "split_holds", "split_holds", defArgs s_split_holds, defBody s_split_holds, defScope s_split_holds⟩ : He.FnD)) (st := s_split_holds) rfl (He.keep_ok (c.fact 95 (f := .keep "split_holds") rfl)) rfl rfl rfl
  exact ⟨_, fd, F, He.glo_ok X G (c.fact 96 (f := .glo "split_holds") rfl), F.binds fun _ _ _ _ _ _ us hl => match us, hl with | [_, _, _], _ => rfl⟩
theorem q_holds (X : K.In h) (G : h.Ns mainGlobals mg) (c : He.SaysE faH fnH K) : DefX K mg "holds" "holds" "holds" s_holds p_holds := by
  obtain ⟨fd, F⟩ := fun_of c 39 (d := (⟨("holds", none), "holds", "holds", defArgs s_holds, defBody s_holds, defScope s_holds⟩ : He.FnD)) (st := s_holds) rfl (He.keep_ok (c.fact 97 (f := .keep "holds") rfl)) rfl rfl rfl
  exact ⟨_, fd, F, He.glo_ok X G (c.fact 98 (f := .glo "holds") rfl), F.binds fun _ _ _ _ _ _ us hl => match us, hl with | [_, _, _], _ => rfl⟩
theorem q_tree_holds (X : K.In h) (G : h.Ns mainGlobals mg) (c : He.SaysE faH fnH K) : DefX K mg "tree_holds" "tree_holds" "tree_holds" s_tree_holds p_tree_holds := by
  obtain ⟨fd, F⟩ := fun_of c 40 (d := (⟨("tree_holds", none), "tree_holds", "tree_holds", defArgs s_tree_holds, defBody s_tree_holds, defScope s_tree_holds⟩ : He.FnD)) (st := s_tree_holds) rfl (He.keep_ok (c.fact 99 (f := .keep "tree_holds") rfl)) rfl rfl rfl
  exact ⟨_, fd, F, He.glo_ok X G (c.fact 100 (f := .glo "tree_holds") rfl), F.binds fun _ _ _ _ _ _ us hl => match us, hl with | [_, _, _, _, _], _ => rfl⟩
theorem q_world_or_tree (X : K.In h) (G : h.Ns mainGlobals mg) (c : He.SaysE faH fnH K) : DefX K mg "world_or_tree" "world_or_tree" "world_or_tree" s_world_or_tree p_world_or_tree := by
  obtain ⟨fd, F⟩ := fun_of c 41 (d := (⟨("world_or_tree", none), "world_or_tree", "world_or_tree", defArgs s_world_or_tree, defBody s_world_or_tree, defScope s_world_or_tree⟩ : He.FnD)) (st := s_world_or_tree) rfl (He.keep_ok (c.fact 101 (f := .keep "world_or_tree") rfl)) rfl rfl rfl
  exact ⟨_, fd, F, He.glo_ok X G (c.fact 102 (f := .glo "world_or_tree") rfl), F.binds fun _ _ _ _ _ _ us hl => match us, hl with | [_, _, _, _], _ => rfl⟩
theorem q__law_held (X : K.In h) (G : h.Ns mainGlobals mg) (c : He.SaysE faH fnH K) : DefX K mg "_law_held" "_law_held" "_law_held" s__law_held p__law_held := by
  obtain ⟨fd, F⟩ := fun_of c 42 (d := (⟨("_law_held", none), "_law_held", "_law_held", defArgs s__law_held, defBody s__law_held, defScope s__law_held⟩ : He.FnD)) (st := s__law_held) rfl (He.keep_ok (c.fact 103 (f := .keep "_law_held") rfl)) rfl rfl rfl
  exact ⟨_, fd, F, He.glo_ok X G (c.fact 104 (f := .glo "_law_held") rfl), F.binds fun _ _ _ _ _ _ us hl => match us, hl with | [_], _ => rfl⟩
theorem q_law (X : K.In h) (G : h.Ns mainGlobals mg) (c : He.SaysE faH fnH K) : DefX K mg "law" "law" "law" s_law p_law := by
  obtain ⟨fd, F⟩ := fun_of c 43 (d := (⟨("law", none), "law", "law", defArgs s_law, defBody s_law, defScope s_law⟩ : He.FnD)) (st := s_law) rfl (He.keep_ok (c.fact 105 (f := .keep "law") rfl)) rfl rfl rfl
  exact ⟨_, fd, F, He.glo_ok X G (c.fact 106 (f := .glo "law") rfl), F.binds fun _ _ _ _ _ _ us hl => match us, hl with | [_], _ => rfl⟩
theorem tx_ok (X : K.In h) (G : h.Ns mainGlobals mg) (c : He.SaysE faH fnH K) : Tx K mg (ctH K) where
  b_all := He.free_ok X G (c.fact 0 (f := .free "all") rfl)
  b_any := He.free_ok X G (c.fact 1 (f := .free "any") rfl)
  b_bool := He.free_ok X G (c.fact 2 (f := .free "bool") rfl)
  b_dict := He.free_ok X G (c.fact 3 (f := .free "dict") rfl)
  b_enumerate := He.free_ok X G (c.fact 4 (f := .free "enumerate") rfl)
  b_int := He.free_ok X G (c.fact 5 (f := .free "int") rfl)
  b_isinstance := He.free_ok X G (c.fact 6 (f := .free "isinstance") rfl)
  b_len := He.free_ok X G (c.fact 7 (f := .free "len") rfl)
  b_list := He.free_ok X G (c.fact 8 (f := .free "list") rfl)
  b_max := He.free_ok X G (c.fact 9 (f := .free "max") rfl)
  b_range := He.free_ok X G (c.fact 10 (f := .free "range") rfl)
  b_set := He.free_ok X G (c.fact 11 (f := .free "set") rfl)
  b_sorted := He.free_ok X G (c.fact 12 (f := .free "sorted") rfl)
  b_str := He.free_ok X G (c.fact 13 (f := .free "str") rfl)
  b_tuple := He.free_ok X G (c.fact 14 (f := .free "tuple") rfl)
  b_zip := He.free_ok X G (c.fact 15 (f := .free "zip") rfl)
  c_BEYOND := cst_int (He.int_ok X G (c.fact 16 (f := .int "BEYOND" (1000000000)) rfl))
  c_LETTERS := cst_str (He.str_ok X G (c.fact 17 (f := .str "LETTERS" "abcdefghijklmnopqrstuvwxyz") rfl))
  c_STAR := cst_str (He.str_ok X G (c.fact 18 (f := .str "STAR" "*") rfl))
  na_Settling_kinds_known := He.noat_ok (c.fact 19 (f := .noat "Settling" "kinds_known") rfl)
  na_Settling_knots := He.noat_ok (c.fact 20 (f := .noat "Settling" "knots") rfl)
  na_Settling_names_known := He.noat_ok (c.fact 21 (f := .noat "Settling" "names_known") rfl)
  x_NoWorld := (He.exc_ok (c.fact 22 (f := .exc "NoWorld") rfl)).1
  gx_NoWorld := He.glo_ok X G (c.fact 23 (f := .glo "NoWorld") rfl)
  kx_NoWorld := (He.exc_ok (c.fact 22 (f := .exc "NoWorld") rfl)).2.1
  bx_NoWorld := (He.exc_ok (c.fact 22 (f := .exc "NoWorld") rfl)).2.2.1
  tx_NoWorld := (He.exc_ok (c.fact 22 (f := .exc "NoWorld") rfl)).2.2.2
  cl_Settling := He.cls_ok (c.fact 24 (f := .cls "Settling") rfl)
  d__law_bag := q__law_bag X G c
  d__law_draw := q__law_draw X G c
  d__law_values := q__law_values X G c
  d__law_top := q__law_top X G c
  d__law_empty := q__law_empty X G c
  d__law_coarse := q__law_coarse X G c
  d__law_keys := q__law_keys X G c
  d__law_ladder := q__law_ladder X G c
  d__law_roll := q__law_roll X G c
  d__law_world := q__law_world X G c
  d_is_number := q_is_number X G c
  d_path_up := q_path_up X G c
  d_paths_of := q_paths_of X G c
  d_levels_of := q_levels_of X G c
  d_are_levels := q_are_levels X G c
  d_is_level := q_is_level X G c
  d_coarse := q_coarse X G c
  d_is_at := q_is_at X G c
  d_is_key := q_is_key X G c
  d_is_secret := q_is_secret X G c
  d_is_group := q_is_group X G c
  d_is_release := q_is_release X G c
  d_key_of := q_key_of X G c
  d_knots_of := q_knots_of X G c
  d_fits := q_fits X G c
  d_Settling_init := q_Settling_init X G c
  d_Settling_nobody := q_Settling_nobody c
  d_Settling_settled_more := q_Settling_settled_more c
  d_is_clash := q_is_clash X G c
  d_Settling_first_clash := q_Settling_first_clash c
  d_Settling_next_person := q_Settling_next_person c
  d_Settling_grown := q_Settling_grown c
  d_Settling_world_or_none := q_Settling_world_or_none c
  d_may_have := q_may_have X G c
  d_Settling_number_named := q_Settling_number_named c
  d_is_number_2 := q_is_number_2 X G c
  d_is_same_key := q_is_same_key X G c
  d_clash_holds := q_clash_holds X G c
  d_split_holds := q_split_holds X G c
  d_holds := q_holds X G c
  d_tree_holds := q_tree_holds X G c
  d_world_or_tree := q_world_or_tree X G c
  d__law_held := q__law_held X G c
  d_law := q_law X G c
end
end DL

namespace DL
open PySem PySem.Spec PyProof.Rows L2
abbrev rowH : PySem.W.OpenRow := PySem.W.OpenLaw.row PySem.Challenge.rw_mistgrid_k50_no_releases
abbrev hkH : PySem.W.Hook := He.hookE 5 faH fnH
def obH (s : PySem.W.SharedT) : He.Al := He.obsG 5 faH fnH (HandSHeadRun.getT s)
theorem obH_eq (s : PySem.W.SharedT) : obH s = hkH.obs s.abs := He.obsG_eq (HandSHeadRun.getT_eq s)
theorem runH (w : World) : HandSHeadRun.RunEq rowH (PySem.W.view rowH.prog [51]) hkH obH 6000 looseH w := by
  intro os
  kernel_rfl
theorem endH {w : World} {mg : Str → Option Value} {h : Heap} (Y : hkH.says w h) (G : h.Ns mainGlobals mg) : ∃ (K : PySem.W.Frag) (ct : Nat → Addr) (f : Addr) (fd : FuncData), K.In h ∧ mg "law" = some (.ref f) ∧ Fun K "law" "law" s_law f fd ∧
    ∀ base : Heap, FnOk PySem.Challenge.pw_mistgrid_k50_no_releases w K mg base (L2.CX PySem.Challenge.pw_mistgrid_k50_no_releases w) 48 f fd ["script"] (spF K ct (fun G _ _ v d => Dr K G v d) 1 f_law) := by
  obtain ⟨K, KX, c⟩ := Y
  have T := tx_ok KX G c
  obtain ⟨f, fd, F, hm, _⟩ := T.d_law.ex
  exact ⟨K, ctH K, f, fd, KX, hm, F, fun base => k_law T F⟩
end DL
open PySem PySem.W PySem.Calls PyProof.Rows
theorem PySem.Challenge.cw_mistgrid_k50_no_releases_holds : PySem.Challenge.rw_mistgrid_k50_no_releases.Holds := by
  w_on; o_law
  refine HandSHeadRun.head_any (r := OpenLaw.row PySem.Challenge.rw_mistgrid_k50_no_releases) (q := view (OpenLaw.row PySem.Challenge.rw_mistgrid_k50_no_releases).prog [51]) (H := DL.hkH) (ob := DL.obH) (M := 6000) (loose := DL.looseH) (d := HandSHeadRun.topDef (OpenLaw.row PySem.Challenge.rw_mistgrid_k50_no_releases).prog 51) (kwd := []) DL.obH_eq
    (by kernel_rfl) (fun s => by kernel_rfl) DL.runH (by kernel_rfl) (by kernel_rfl) (by kernel_rfl) (by rfl) (by first | assumption | decide +kernel) (by decide +kernel) ⟨rfl, rfl, rfl, rfl, rfl, by decide +kernel⟩ ?hw ?hc
  case hw => w_witness2
  case hc => exact DL.walk_ofW (l := PySem.Challenge.rw_mistgrid_k50_no_releases) (n := 63) (k := 48) (x := "script") (st := DL.s_law) (qx := "law") (F := DL.f_law) rfl (by decide) (by kernel_rfl) ⟨rfl, by decide, by decide⟩ (by kernel_rfl) (fun _ _ _ _ _ _ _ => rfl) DL.law_true (fun w mg h Y G => DL.endH Y G)

